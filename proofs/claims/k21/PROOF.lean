import PyProof.Rows.All
import Wide.All
import OpenK.AllK
import Wide.FinOn
import KE.KStateDown
import Lean
import HandS.ForMost
import HandS.Exc
import HandS.TryOnly
import HandS.ExcOwn
import HandS.WordsExc
import HandS.Walk
import HandS.Deep
import HandS.Flow
import HandS.RaiseOp
import HandS.Defaults
import HandS.More
import HandS.Head0
import HandS.Head1
import HandS.Head2
import HandS.HeadEnd
import HandS.HeadHook1
import HandS.HeadHook2
import HandS.ExcIs
import HandS.IsInst
import HandS.Text
import HandS.TupAny
import HandS.TupMul
import HandS.Replace
import HandS.Sort
import HandS.Style
import HandS.HotCalls
import PySem.Challenge.RW_soundturns_k21_forms_of_words
set_option Elab.async false
set_option linter.all false
set_option maxRecDepth 100000
section
set_option maxHeartbeats 1000000
namespace DL
open PySem PySem.Spec PyProof.Rows L2

/-! ## data, environments, results -/
abbrev D := PyData
abbrev Rho := List (Option D)
inductive R (α : Type) where
  | ok (a : α) (r : Rho)
  | exc (c : Str) (x : D) (r : Rho)
  | bad
def R.on {α : Type} (r : R α) (A : α → Rho → Prop) (B : Str → D → Rho → Prop) : Prop := match r with
  | .ok a r => A a r
  | .exc c x r => B c x r
  | .bad => False
def R.bind {α β : Type} (r : R α) (k : α → Rho → R β) : R β := match r with
  | .ok a r => k a r
  | .exc c x r => .exc c x r
  | .bad => .bad
theorem on_bind {α β : Type} {r : R α} {k : α → Rho → R β} {A : β → Rho → Prop} {B : Str → D → Rho → Prop} : (r.bind k).on A B = r.on (fun a r => (k a r).on A B) B := by cases r <;> rfl
theorem R.on.mono {α : Type} {r : R α} {A A' : α → Rho → Prop} {B B' : Str → D → Rho → Prop} (h : r.on A B) (ha : ∀ a r, A a r → A' a r) (hb : ∀ c x r, B c x r → B' c x r) : r.on A' B' := by
  cases r with
  | ok a r => exact ha _ _ h
  | exc c x r => exact hb _ _ _ h
  | bad => exact h
def R.ofO {α : Type} (o : Option α) (r : Rho) : R α := match o with
  | some a => .ok a r
  | none => .bad
theorem on_ofO {α : Type} {o : Option α} {r : Rho} {A : α → Rho → Prop} {B : Str → D → Rho → Prop} (h : (R.ofO o r).on A B) : ∃ a, o = some a ∧ A a r := by
  cases o with
  | none => exact False.elim h
  | some a => exact ⟨a, rfl, h⟩

/-! ## masks, what a value stands for -/
open Classical in
noncomputable def msk (H : Hp) (W : Addr → Prop) : Hp := fun a => if W a then none else H a
theorem msk_in {H : Hp} {W : Addr → Prop} {a : Addr} (h : W a) : msk H W a = none := if_pos h
theorem msk_out {H : Hp} {W : Addr → Prop} {a : Addr} (h : ¬ W a) : msk H W a = H a := if_neg h
theorem msk_some {H : Hp} {W : Addr → Prop} {a : Addr} {o : HO} (h : msk H W a = some o) : ¬ W a ∧ H a = some o := by
  by_cases q : W a
  · rw [msk_in q] at h; cases h
  · rw [msk_out q] at h; exact ⟨q, h⟩
theorem msk_mk {H : Hp} {W : Addr → Prop} {a : Addr} {o : HO} (h : ¬ W a) (e : H a = some o) : msk H W a = some o := by rw [msk_out h, e]
theorem msk_sub {H : Hp} {W : Addr → Prop} : Same (msk H W) H := fun _ _ h => (msk_some h).2
theorem msk_same {H H' : Hp} {W : Addr → Prop} (s : Same H H') : Same (msk H W) (msk H' W) := fun a o h => msk_mk (msk_some h).1 (s a o (msk_some h).2)
theorem msk_less {H : Hp} {W W' : Addr → Prop} (s : ∀ a, W' a → W a) : Same (msk H W) (msk H W') := fun a o h => msk_mk (fun z => (msk_some h).1 (s a z)) (msk_some h).2
theorem Same.tup {K : PySem.W.Frag} {H H' : Hp} {a : Addr} {xs : List V} (e : Same H H') (h : SqT K H a xs) : SqT K H' a xs := by
  rcases h with (h | ⟨o, h⟩) | h
  · exact .inl (.inl (e _ _ h))
  · exact .inl (.inr ⟨o, e _ _ h⟩)
  · exact .inr h
theorem Same.rd {H H' : Hp} {a : Addr} {u : HO} (e : Same H H') (h : Rd H a u) : Rd H' a u := by
  rcases h with h | ⟨o, h⟩
  · exact .inl (e _ _ h)
  · exact .inr ⟨o, e _ _ h⟩
mutual
inductive Rep (K : PySem.W.Frag) (H : Hp) : V → D → Prop
  | non : Rep K H .non .none
  | bl (b : Bool) : Rep K H (.bl b) (.bool b)
  | int (i : Int) : Rep K H (.int i) (.int i)
  | str (x : Str) : Rep K H (.str x) (.str x)
  | lst {a : Addr} {xs : List V} {ds : List D} : Rd H a (.lst xs) → RepAll K H xs ds → Rep K H (.ref a) (.list ds)
  | tup {a : Addr} {xs : List V} {ds : List D} : SqT K H a xs → RepAll K H xs ds → Rep K H (.ref a) (.tuple ds)
inductive RepAll (K : PySem.W.Frag) (H : Hp) : List V → List D → Prop
  | nil : RepAll K H [] []
  | cons {v : V} {vs : List V} {d : D} {ds : List D} : Rep K H v d → RepAll K H vs ds → RepAll K H (v :: vs) (d :: ds)
end
section
variable {K : PySem.W.Frag} {H H' : Hp}
mutual
theorem Rep.mono (s : Same H H') : ∀ {v : V} {d : D}, Rep K H v d → Rep K H' v d
  | _, _, .non => .non
  | _, _, .bl b => .bl b
  | _, _, .int i => .int i
  | _, _, .str x => .str x
  | _, _, .lst h a => .lst (DL.Same.rd s h) (RepAll.mono s a)
  | _, _, .tup h a => .tup (DL.Same.tup s h) (RepAll.mono s a)
theorem RepAll.mono (s : Same H H') : ∀ {vs : List V} {ds : List D}, RepAll K H vs ds → RepAll K H' vs ds
  | _, _, .nil => .nil
  | _, _, .cons a b => .cons (Rep.mono s a) (RepAll.mono s b)
end
mutual
theorem Rep.dp : ∀ {v : V} {d : D}, Rep K H v d → Dp K H v d
  | _, _, .non => .non
  | _, _, .bl b => .bl b
  | _, _, .int i => .int i
  | _, _, .str x => .str x
  | _, _, .lst h a => .lst (.inl h) (RepAll.dp a)
  | _, _, .tup h a => .tup h (RepAll.dp a)
theorem RepAll.dp : ∀ {vs : List V} {ds : List D}, RepAll K H vs ds → DpAll K H vs ds
  | _, _, .nil => .nil
  | _, _, .cons a b => .cons (Rep.dp a) (RepAll.dp b)
end
theorem RepAll.len : ∀ {vs : List V} {ds : List D}, RepAll K H vs ds → vs.length = ds.length
  | _, _, .nil => rfl
  | _, _, .cons _ b => congrArg Nat.succ (RepAll.len b)
theorem RepAll.get : ∀ {vs : List V} {ds : List D} {i : Nat} {d : D}, RepAll K H vs ds → ds[i]? = some d → ∃ v, vs[i]? = some v ∧ Rep K H v d
  | _, _, _, _, .nil, e => by simp at e
  | _, _, 0, _, .cons r _, e => by simp at e; subst e; exact ⟨_, rfl, r⟩
  | _, _, i + 1, d, .cons _ t, e => by
    obtain ⟨v, h1, h2⟩ := RepAll.get (i := i) (d := d) t (by simpa using e)
    exact ⟨v, by simpa using h1, h2⟩
theorem RepAll.get' : ∀ {vs : List V} {ds : List D} {i : Nat} {v : V}, RepAll K H vs ds → vs[i]? = some v → ∃ d, ds[i]? = some d ∧ Rep K H v d
  | _, _, _, _, .nil, e => by simp at e
  | _, _, 0, _, .cons r _, e => by simp at e; subst e; exact ⟨_, rfl, r⟩
  | _, _, i + 1, v, .cons _ t, e => by
    obtain ⟨d, h1, h2⟩ := RepAll.get' (i := i) (v := v) t (by simpa using e)
    exact ⟨d, by simpa using h1, h2⟩
theorem RepAll.append : ∀ {vs ws : List V} {ds es : List D}, RepAll K H vs ds → RepAll K H ws es → RepAll K H (vs ++ ws) (ds ++ es)
  | _, _, _, _, .nil, b => b
  | _, _, _, _, .cons a t, b => .cons a (RepAll.append t b)
theorem RepAll.drop : ∀ {vs : List V} {ds : List D} (n : Nat), RepAll K H vs ds → RepAll K H (vs.drop n) (ds.drop n)
  | _, _, 0, r => r
  | _, _, n + 1, .nil => .nil
  | _, _, n + 1, .cons _ t => RepAll.drop n t
theorem RepAll.take : ∀ {vs : List V} {ds : List D} (n : Nat), RepAll K H vs ds → RepAll K H (vs.take n) (ds.take n)
  | _, _, 0, _ => .nil
  | _, _, _ + 1, .nil => .nil
  | _, _, n + 1, .cons a t => .cons a (RepAll.take n t)
theorem RepAll.reverse : ∀ {vs : List V} {ds : List D}, RepAll K H vs ds → RepAll K H vs.reverse ds.reverse
  | _, _, .nil => .nil
  | _, _, .cons a t => by rw [List.reverse_cons, List.reverse_cons]; exact (RepAll.reverse t).append (.cons a .nil)
theorem RepAll.set : ∀ {vs : List V} {ds : List D} {v : V} {d : D} (i : Nat), RepAll K H vs ds → Rep K H v d → RepAll K H (vs.set i v) (ds.set i d)
  | _, _, _, _, _, .nil, _ => .nil
  | _, _, _, _, 0, .cons _ t, r => .cons r t
  | _, _, _, _, n + 1, .cons a t, r => .cons a (RepAll.set n t r)
theorem RepAll.eraseIdx : ∀ {vs : List V} {ds : List D} (i : Nat), RepAll K H vs ds → RepAll K H (vs.eraseIdx i) (ds.eraseIdx i)
  | _, _, _, .nil => .nil
  | _, _, 0, .cons _ t => t
  | _, _, n + 1, .cons a t => .cons a (RepAll.eraseIdx n t)
theorem RepAll.rep {vs : List V} {ds : List D} (h : RepAll K H vs ds) : ∀ k : Nat, RepAll K H (List.replicate k vs).flatten (List.replicate k ds).flatten
  | 0 => .nil
  | k + 1 => by rw [List.replicate_succ, List.replicate_succ, List.flatten_cons, List.flatten_cons]; exact h.append (h.rep k)
theorem repInts : ∀ (ns : List Int), RepAll K H (ns.map V.int) (ns.map PyData.int)
  | [] => .nil
  | n :: ns => .cons (.int n) (repInts ns)
theorem Rep.strI {v : V} {x : Str} (h : Rep K H v (.str x)) : v = .str x := by cases h; rfl
theorem Rep.intI {v : V} {x : Int} (h : Rep K H v (.int x)) : v = .int x := by cases h; rfl
theorem Rep.blI {v : V} {x : Bool} (h : Rep K H v (.bool x)) : v = .bl x := by cases h; rfl
theorem Rep.nonI {v : V} (h : Rep K H v .none) : v = .non := by cases h; rfl
theorem Rep.lstI {v : V} {ds : List D} (h : Rep K H v (.list ds)) : ∃ a xs, v = .ref a ∧ Rd H a (.lst xs) ∧ RepAll K H xs ds := by cases h; exact ⟨_, _, rfl, by assumption, by assumption⟩
theorem Rep.tupI {v : V} {ds : List D} (h : Rep K H v (.tuple ds)) : ∃ a xs, v = .ref a ∧ SqT K H a xs ∧ RepAll K H xs ds := by cases h; exact ⟨_, _, rfl, by assumption, by assumption⟩
theorem RepAll.strs : ∀ {vs : List V} {ss : List Str}, RepAll K H vs (ss.map PyData.str) → vs = ss.map V.str
  | _, [], h => by cases h; rfl
  | _, s :: ss, h => by
    cases h with
    | cons a b => rw [a.strI, RepAll.strs b]; rfl
theorem RepAll.bls : ∀ {vs : List V} {ss : List Bool}, RepAll K H vs (ss.map PyData.bool) → vs = ss.map V.bl
  | _, [], h => by cases h; rfl
  | _, s :: ss, h => by
    cases h with
    | cons a b => rw [a.blI, RepAll.bls b]; rfl
theorem RepAll.ints : ∀ {vs : List V} {ss : List Int}, RepAll K H vs (ss.map PyData.int) → vs = ss.map V.int
  | _, [], h => by cases h; rfl
  | _, s :: ss, h => by
    cases h with
    | cons a b => rw [a.intI, RepAll.ints b]; rfl
end

/-! ## shapes, modes, the relation -/
/-- pur: a value that nobody changes; lst: a list of one's own -/
inductive Shp where
  | pur | lst | exn (a : Addr)
  deriving DecidableEq
def Shp.ok : Shp → Bool
  | .exn _ => false
  | _ => true
structure Md where
  sh : Shp := .pur
  fx : Bool := false
inductive RepS (K : PySem.W.Frag) (M H : Hp) : Shp → V → D → List Addr → Prop
  | pur {v : V} {d : D} : Rep K M v d → RepS K M H .pur v d []
  | lst {a : Addr} {vs : List V} {ds : List D} : H a = some (.lst vs) → RepAll K M vs ds → RepS K M H .lst (.ref a) (.list ds) [a]
  | exn {a : Addr} {c : Str} : RepS K M H (.exn a) (.ref a) (.dict [(.str c, .none)]) []
theorem RepS.exnI {K : PySem.W.Frag} {M H : Hp} {a : Addr} {v : V} {d : D} {A : List Addr} (h : RepS K M H (.exn a) v d A) : v = .ref a ∧ ∃ c, d = .dict [(.str c, .none)] := by
  cases h with
  | exn => exact ⟨rfl, _, rfl⟩
theorem RepS.tr {K : PySem.W.Frag} {M H : Hp} {sh : Shp} {v : V} {d : D} {A : List Addr} (h : RepS K M H sh v d A) : ∀ a ∈ A, H a ≠ none := by
  cases h with
  | pur h => intro a h; cases h
  | lst h r => intro b hb; rw [List.mem_singleton] at hb; rw [hb, h]; exact fun z => by cases z
  | exn => intro a h; cases h
theorem RepS.nd {K : PySem.W.Frag} {M H : Hp} {sh : Shp} {v : V} {d : D} {A : List Addr} (h : RepS K M H sh v d A) : A.Nodup := by
  cases h with
  | pur h => exact List.nodup_nil
  | lst h r => exact List.nodup_cons.mpr ⟨List.not_mem_nil, List.nodup_nil⟩
  | exn => exact List.nodup_nil
theorem RepS.mono {K : PySem.W.Frag} {M M' H H' : Hp} {sh : Shp} {v : V} {d : D} {A : List Addr} (h : RepS K M H sh v d A) (s : Same M M') (k : ∀ a ∈ A, ∀ o, H a = some o → H' a = some o) : RepS K M' H' sh v d A := by
  cases h with
  | pur h => exact .pur (h.mono s)
  | lst h r => exact .lst (k _ List.mem_cons_self _ h) (r.mono s)
  | exn => exact .exn
theorem RepS.purI {K : PySem.W.Frag} {M H : Hp} {v : V} {d : D} {A : List Addr} (h : RepS K M H .pur v d A) : A = [] ∧ Rep K M v d := by
  cases h with
  | pur h => exact ⟨rfl, h⟩
theorem RepS.lstI {K : PySem.W.Frag} {M H : Hp} {v : V} {d : D} {A : List Addr} (h : RepS K M H .lst v d A) : ∃ a vs ds, v = .ref a ∧ d = .list ds ∧ A = [a] ∧ H a = some (.lst vs) ∧ RepAll K M vs ds := by
  cases h with
  | lst h r => exact ⟨_, _, _, rfl, rfl, rfl, h, r⟩
abbrev Own := Nat → List Addr
abbrev Gh := Addr → Prop
def Ow (O : Own) (G : Gh) : Gh := fun a => G a ∨ ∃ i, a ∈ O i
def updO (O : Own) (i : Nat) (A : List Addr) : Own := fun j => if j = i then A else O j
theorem updO_same {O : Own} {i : Nat} {A : List Addr} : updO O i A i = A := if_pos rfl
theorem updO_ne {O : Own} {i j : Nat} {A : List Addr} (h : j ≠ i) : updO O i A j = O j := if_neg h
def GA (A : List Addr) (G : Gh) : Gh := fun a => a ∈ A ∨ G a
abbrev Ms := Nat → Md
structure Rel (K : PySem.W.Frag) (ms : Ms) (σ : L2.St) (H : Hp) (r : Rho) (O : Own) (G : Gh) : Prop where
  len : r.length = σ.length
  slot : ∀ i d, r[i]? = some (some d) → ∃ v, σ[i]? = some (some v) ∧ RepS K (msk H (Ow O G)) H (ms i).sh v d (O i)
  emp : ∀ i, (∀ d, r[i]? ≠ some (some d)) → O i = []
  tr : ∀ a, G a → H a ≠ none
  dj : ∀ i j a, a ∈ O i → a ∈ O j → i = j
  dG : ∀ i a, a ∈ O i → ¬ G a
structure Ext (H : Hp) (O : Own) (G : Gh) (H' : Hp) (O' : Own) (G' : Gh) : Prop where
  sm : Same (msk H (Ow O G)) (msk H' (Ow O' G'))
  gh : ∀ a, G a → G' a ∧ H' a = H a
theorem Ext.refl {H : Hp} {O : Own} {G : Gh} : Ext H O G H O G := ⟨Same.refl _, fun a h => ⟨h, rfl⟩⟩
theorem Ext.trans {H1 H2 H3 : Hp} {O1 O2 O3 : Own} {G1 G2 G3 : Gh} (a : Ext H1 O1 G1 H2 O2 G2) (b : Ext H2 O2 G2 H3 O3 G3) : Ext H1 O1 G1 H3 O3 G3 :=
  ⟨a.sm.trans b.sm, fun x h => ⟨(b.gh x (a.gh x h).1).1, (b.gh x (a.gh x h).1).2.trans (a.gh x h).2⟩⟩
theorem Ext.same {H H' : Hp} {O : Own} {G : Gh} (s : Same H H') (tr : ∀ a, G a → H a ≠ none) : Ext H O G H' O G := ⟨msk_same s, fun a h => ⟨h, by
  cases e : H a with
  | none => exact absurd e (tr a h)
  | some o => exact s a o e⟩⟩
section
variable {K : PySem.W.Frag} {ms : Ms} {σ : L2.St} {H H' : Hp} {r : Rho} {O : Own} {G : Gh}
theorem Rel.trO (h : Rel K ms σ H r O G) : ∀ a, Ow O G a → H a ≠ none := by
  rintro a (g | ⟨i, hi⟩)
  · exact h.tr a g
  · by_cases q : ∃ d, r[i]? = some (some d)
    · obtain ⟨d, e⟩ := q
      obtain ⟨v, _, rs⟩ := h.slot i d e
      exact rs.tr a hi
    · rw [h.emp i fun d e => q ⟨d, e⟩] at hi
      cases hi
theorem Rel.same (h : Rel K ms σ H r O G) (s : Same H H') : Rel K ms σ H' r O G where
  len := h.len
  slot := fun i d e => by
    obtain ⟨v, e1, rs⟩ := h.slot i d e
    exact ⟨v, e1, rs.mono (msk_same s) fun a _ o q => s a o q⟩
  emp := h.emp
  tr := fun a g => by
    cases e : H a with
    | none => exact absurd e (h.tr a g)
    | some o => rw [s a o e]; exact fun z => by cases z
  dj := h.dj
  dG := h.dG
theorem Rel.nowned (h : Rel K ms σ H r O G) {p : Addr} (hp : H p = none) : ¬ Ow O G p := fun z => h.trO p z hp
theorem Rel.pur (h : Rel K ms σ H r O G) {i : Nat} {d : D} (e : r[i]? = some (some d)) (hs : (ms i).sh = .pur) : ∃ v, σ[i]? = some (some v) ∧ Rep K (msk H (Ow O G)) v d := by
  obtain ⟨v, e1, rs⟩ := h.slot i d e
  rw [hs] at rs
  exact ⟨v, e1, rs.purI.2⟩
/-- a pure value is stored in a slot -/
theorem Rel.set (h : Rel K ms σ H r O G) {i : Nat} {v : V} {d : D} (hs : (ms i).sh = .pur) (hi : i < r.length) (hr : Rep K (msk H (Ow O G)) v d) : Rel K ms (σ.set i (some v)) H (r.set i (some d)) O G := by
  have hO : O i = [] := by
    by_cases q : ∃ d, r[i]? = some (some d)
    · obtain ⟨d, e⟩ := q
      obtain ⟨v, _, rs⟩ := h.slot i d e
      rw [hs] at rs
      exact rs.purI.1
    · exact h.emp i fun d e => q ⟨d, e⟩
  refine ⟨by rw [List.length_set, List.length_set]; exact h.len, fun j e he => ?_, fun j hj => ?_, h.tr, h.dj, h.dG⟩
  · by_cases q : j = i
    · subst q
      rw [List.getElem?_set_self hi] at he
      cases he
      refine ⟨v, by rw [List.getElem?_set_self (by rw [← h.len]; exact hi)], ?_⟩
      rw [hs, hO]
      exact .pur hr
    · rw [List.getElem?_set_ne (Ne.symm q)] at he
      obtain ⟨u, e1, rs⟩ := h.slot j e he
      exact ⟨u, by rw [List.getElem?_set_ne (Ne.symm q)]; exact e1, rs⟩
  · by_cases q : j = i
    · subst q; exact hO
    · exact h.emp j fun e he => hj e (by rw [List.getElem?_set_ne (Ne.symm q)]; exact he)
theorem ow_ga {A : List Addr} {i : Nat} {a : Addr} : Ow (updO O i A) G a → Ow O (GA A G) a := by
  rintro (g | ⟨j, hj⟩)
  · exact .inl (.inr g)
  · by_cases q : j = i
    · subst q; rw [updO_same] at hj; exact .inl (.inl hj)
    · rw [updO_ne q] at hj; exact .inr ⟨j, hj⟩
/-- an object of one's own (its addresses A were guarded) is stored in a slot; what stood there is let go -/
theorem Rel.setOwn {A : List Addr} (h : Rel K ms σ H r O (GA A G)) (hG : ∀ a ∈ A, ¬ G a) {i : Nat} {v : V} {d : D} (hi : i < r.length) (hr : RepS K (msk H (Ow O (GA A G))) H (ms i).sh v d A) :
    Rel K ms (σ.set i (some v)) H (r.set i (some d)) (updO O i A) G := by
  have sm : Same (msk H (Ow O (GA A G))) (msk H (Ow (updO O i A) G)) := msk_less fun a z => ow_ga z
  refine ⟨by rw [List.length_set, List.length_set]; exact h.len, fun j e he => ?_, fun j hj => ?_, fun a g => h.tr a (.inr g), fun j k a hj hk => ?_, fun j a hj => ?_⟩
  · by_cases q : j = i
    · subst q
      rw [List.getElem?_set_self hi] at he
      cases he
      refine ⟨v, by rw [List.getElem?_set_self (by rw [← h.len]; exact hi)], ?_⟩
      rw [updO_same]
      exact hr.mono sm fun _ _ _ z => z
    · rw [List.getElem?_set_ne (Ne.symm q)] at he
      obtain ⟨u, e1, rs⟩ := h.slot j e he
      refine ⟨u, by rw [List.getElem?_set_ne (Ne.symm q)]; exact e1, ?_⟩
      rw [updO_ne q]
      exact rs.mono sm fun _ _ _ z => z
  · by_cases q : j = i
    · subst q
      exact absurd (List.getElem?_set_self hi) (hj d)
    · rw [updO_ne q]
      exact h.emp j fun e he => hj e (by rw [List.getElem?_set_ne (Ne.symm q)]; exact he)
  · by_cases q : j = i
    · by_cases q2 : k = i
      · rw [q, q2]
      · subst q
        rw [updO_same] at hj
        rw [updO_ne q2] at hk
        exact absurd (.inl hj) (h.dG k a hk)
    · rw [updO_ne q] at hj
      by_cases q2 : k = i
      · subst q2
        rw [updO_same] at hk
        exact absurd (.inl hk) (h.dG j a hj)
      · rw [updO_ne q2] at hk
        exact h.dj j k a hj hk
  · by_cases q : j = i
    · subst q
      rw [updO_same] at hj
      exact hG a hj
    · rw [updO_ne q] at hj
      exact fun g => h.dG j a hj (.inr g)
/-- a slot is emptied (its object, if it has one, is let go) -/
theorem Rel.drop (h : Rel K ms σ H r O G) (i : Nat) : Rel K ms σ H (r.set i none) (updO O i []) G := by
  have sm : Same (msk H (Ow O G)) (msk H (Ow (updO O i []) G)) := msk_less fun a z => by
    rcases z with g | ⟨j, hj⟩
    · exact .inl g
    · by_cases q : j = i
      · subst q; rw [updO_same] at hj; cases hj
      · rw [updO_ne q] at hj; exact .inr ⟨j, hj⟩
  refine ⟨by rw [List.length_set]; exact h.len, fun j e he => ?_, fun j hj => ?_, h.tr, fun j k a hj hk => ?_, fun j a hj => ?_⟩
  · by_cases q : j = i
    · subst q
      rw [List.getElem?_set] at he
      split at he
      · split at he <;> cases he
      · rename_i z; exact absurd rfl z
    · rw [List.getElem?_set_ne (Ne.symm q)] at he
      obtain ⟨u, e1, rs⟩ := h.slot j e he
      refine ⟨u, e1, ?_⟩
      rw [updO_ne q]
      exact rs.mono sm fun _ _ _ z => z
  · by_cases q : j = i
    · subst q; exact updO_same
    · rw [updO_ne q]
      exact h.emp j fun e he => hj e (by rw [List.getElem?_set_ne (Ne.symm q)]; exact he)
  · by_cases q : j = i
    · subst q; rw [updO_same] at hj; cases hj
    · rw [updO_ne q] at hj
      by_cases q2 : k = i
      · subst q2; rw [updO_same] at hk; cases hk
      · rw [updO_ne q2] at hk; exact h.dj j k a hj hk
  · by_cases q : j = i
    · subst q; rw [updO_same] at hj; cases hj
    · rw [updO_ne q] at hj; exact h.dG j a hj
/-- an object of one's own leaves its slot; its addresses are guarded -/
theorem Rel.mv (h : Rel K ms σ H r O G) {i : Nat} {d : D} (e : r[i]? = some (some d)) : ∃ v, σ[i]? = some (some v) ∧
    Rel K ms σ H (r.set i none) (updO O i []) (GA (O i) G) ∧ Ext H O G H (updO O i []) (GA (O i) G) ∧ RepS K (msk H (Ow (updO O i []) (GA (O i) G))) H (ms i).sh v d (O i) := by
  obtain ⟨v, e1, rs⟩ := h.slot i d e
  have wq : ∀ a, Ow (updO O i []) (GA (O i) G) a ↔ Ow O G a := fun a => by
    constructor
    · rintro ((g | g) | ⟨j, hj⟩)
      · exact .inr ⟨i, g⟩
      · exact .inl g
      · by_cases q : j = i
        · subst q; rw [updO_same] at hj; cases hj
        · rw [updO_ne q] at hj; exact .inr ⟨j, hj⟩
    · rintro (g | ⟨j, hj⟩)
      · exact .inl (.inr g)
      · by_cases q : j = i
        · subst q; exact .inl (.inl hj)
        · exact .inr ⟨j, by rw [updO_ne q]; exact hj⟩
  have sm : Same (msk H (Ow O G)) (msk H (Ow (updO O i []) (GA (O i) G))) := msk_less fun a z => (wq a).mp z
  have hd := h.drop i
  refine ⟨v, e1, ⟨hd.len, fun j f he => ?_, hd.emp, ?_, hd.dj, fun j a hj => ?_⟩, ⟨sm, fun a g => ⟨.inr g, rfl⟩⟩, rs.mono sm fun _ _ _ z => z⟩
  · obtain ⟨u, e2, rs2⟩ := hd.slot j f he
    refine ⟨u, e2, ?_⟩
    by_cases q : j = i
    · subst q
      rw [List.getElem?_set] at he
      split at he
      · split at he <;> cases he
      · rename_i z; exact absurd rfl z
    · rw [List.getElem?_set_ne (Ne.symm q)] at he
      obtain ⟨u2, e3, rs3⟩ := h.slot j f he
      rw [e2] at e3; cases e3
      rw [updO_ne q]
      exact rs3.mono sm fun _ _ _ z => z
  · rintro a (g | g)
    · exact rs.tr a g
    · exact h.tr a g
  · by_cases q : j = i
    · subst q; rw [updO_same] at hj; cases hj
    · rw [updO_ne q] at hj
      rintro (g | g)
      · exact q (h.dj j i a hj g)
      · exact h.dG j a hj g
/-- guarded addresses are let go -/
theorem Rel.free {A : List Addr} (h : Rel K ms σ H r O (GA A G)) : Rel K ms σ H r O G where
  len := h.len
  slot := fun i d e => by
    obtain ⟨v, e1, rs⟩ := h.slot i d e
    exact ⟨v, e1, rs.mono (msk_less fun a z => z.elim (fun g => .inl (.inr g)) .inr) fun _ _ _ z => z⟩
  emp := h.emp
  tr := fun a g => h.tr a (.inr g)
  dj := h.dj
  dG := fun i a hi g => h.dG i a hi (.inr g)
/-- an object of one's own in slot i is changed in place -/
theorem Rel.mut (h : Rel K ms σ H r O G) {i : Nat} {a : Addr} {vs vs' : List V} {ds ds' : List D} (hs : (ms i).sh = .lst) (e : r[i]? = some (some (.list ds))) (hO : O i = [a]) (hr : RepAll K (msk H (Ow O G)) vs' ds') :
    Rel K ms σ (upd H a (.lst vs')) (r.set i (some (.list ds'))) O G ∧ Ext H O G (upd H a (.lst vs')) O G := by
  have ha : Ow O G a := .inr ⟨i, by rw [hO]; exact List.mem_cons_self⟩
  have me : msk (upd H a (.lst vs')) (Ow O G) = msk H (Ow O G) := by
    funext b
    by_cases q : Ow O G b
    · rw [msk_in q, msk_in q]
    · rw [msk_out q, msk_out q, upd_ne (fun z => q (by rw [z]; exact ha))]
  have hi : i < r.length := (List.getElem?_eq_some_iff.mp e).1
  refine ⟨⟨by rw [List.length_set]; exact h.len, fun j f he => ?_, fun j hj => ?_, fun b g => ?_, h.dj, h.dG⟩, ⟨by rw [me]; exact Same.refl _, fun b g => ⟨g, upd_ne fun z => h.dG i a (by rw [hO]; exact List.mem_cons_self) (by rw [← z]; exact g)⟩⟩⟩
  · rw [me]
    by_cases q : j = i
    · subst q
      rw [List.getElem?_set_self hi] at he
      cases he
      obtain ⟨v, e1, rs⟩ := h.slot j _ e
      rw [hs] at rs
      obtain ⟨b, us, es, e2, e3, e4, _, _⟩ := rs.lstI
      rw [hO] at e4
      cases e4
      subst e2
      refine ⟨_, e1, ?_⟩
      rw [hs, hO]
      exact .lst upd_same hr
    · rw [List.getElem?_set_ne (Ne.symm q)] at he
      obtain ⟨v, e1, rs⟩ := h.slot j f he
      refine ⟨v, e1, rs.mono (Same.refl _) fun b hb o z => ?_⟩
      rw [upd_ne fun z2 => q (h.dj j i b hb (by rw [hO, z2]; exact List.mem_cons_self))]
      exact z
  · by_cases q : j = i
    · subst q
      exact absurd (List.getElem?_set_self hi) (hj _)
    · exact h.emp j fun f he => hj f (by rw [List.getElem?_set_ne (Ne.symm q)]; exact he)
  · by_cases q : b = a
    · rw [q, upd_same]; exact fun z => by cases z
    · rw [upd_ne q]; exact h.tr b g
/-- a new object stands outside of all that is owned; guarded -/
theorem Rel.guard (h : Rel K ms σ H r O G) {p : Addr} {o : HO} (hp : H p = none) : Rel K ms σ (upd H p o) r O (GA [p] G) ∧ Ext H O G (upd H p o) O (GA [p] G) := by
  have h2 := h.same (H' := upd H p o) fun b u e => by rw [upd_ne (ne_of_none e hp)]; exact e
  have sm : Same (msk H (Ow O G)) (msk (upd H p o) (Ow O (GA [p] G))) := fun b u e => by
    obtain ⟨n, e⟩ := msk_some e
    have hb : b ≠ p := ne_of_none e hp
    refine msk_mk ?_ (by rw [upd_ne hb]; exact e)
    rintro ((g | g) | g)
    · exact hb (List.mem_singleton.mp g)
    · exact n (.inl g)
    · exact n (.inr g)
  refine ⟨⟨h.len, fun i d e => ?_, h.emp, ?_, h.dj, fun i a hi => ?_⟩, ⟨sm, fun a g => ⟨.inr g, upd_ne fun z => h.tr a g (by rw [z]; exact hp)⟩⟩⟩
  · obtain ⟨v, e1, rs⟩ := h.slot i d e
    exact ⟨v, e1, rs.mono sm fun b hb u z => by rw [upd_ne (ne_of_none z hp)]; exact z⟩
  · rintro a (g | g)
    · rw [List.mem_singleton.mp g, upd_same]; exact fun z => by cases z
    · exact h2.tr a g
  · rintro (g | g)
    · exact h.trO a (.inr ⟨i, hi⟩) (by rw [List.mem_singleton.mp g]; exact hp)
    · exact h.dG i a hi g
end
end DL
end

section
set_option maxHeartbeats 1000000
namespace DL
open PySem PySem.Spec PyProof.Rows L2

/-! ## judgements -/
/-- an exception: c its class's name, x its payload -/
def ExcR (X : Cx) (H : Hp) (c : Str) (x : D) (cv : Value) (dx : Option Addr) : Prop :=
  X.mg c = some cv ∧ ((x = .none ∧ dx = none) ∨ ∃ (d : Addr) (f : Str) (i : Int), x = .tuple [.str f, .int i] ∧ dx = some d ∧ H d = some (.xd [(f, .int i)]))
def Bx (X : Cx) (W : WX) (ms : Ms) (σ : L2.St) (H : Hp) (O : Own) (G : Gh) : Str → D → Rho → Prop := fun c x r' =>
  ∀ cv dx H' O', Rel X.K ms σ H' r' O' G → Ext H O G H' O' G → ExcR X H' c x cv dx → W cv dx σ H'
theorem Bx.mono {X : Cx} {W : WX} {ms : Ms} {σ : L2.St} {H H1 : Hp} {O O1 : Own} {G : Gh} (e : Ext H O G H1 O1 G) {c : Str} {x : D} {r : Rho} (h : Bx X W ms σ H O G c x r) : Bx X W ms σ H1 O1 G c x r :=
  fun cv dx H' O' r e' z => h cv dx H' O' r (e.trans e') z
/-- an expression whose value is pure -/
def tE (X : Cx) (W : WX) (ms : Ms) (f : Rho → R D) : TE := fun σ H Q => ∃ r O G, Rel X.K ms σ H r O G ∧
  (f r).on (fun d r' => ∀ v H' O', Rel X.K ms σ H' r' O' G → Ext H O G H' O' G → Rep X.K (msk H' (Ow O' G)) v d → Q v H') (Bx X W ms σ H O G)
abbrev CE (X : Cx) (W : WX) (ms : Ms) (e : Expr) (f : Rho → R D) : Prop := PE X e (tE X W ms f)
/-- an expression whose value is an object of one's own -/
def tEo (X : Cx) (W : WX) (ms : Ms) (sh : Shp) (f : Rho → R D) : TE := fun σ H Q => ∃ r O G, Rel X.K ms σ H r O G ∧
  (f r).on (fun d r' => ∀ v H' O' A, Rel X.K ms σ H' r' O' (GA A G) → Ext H O G H' O' (GA A G) → (∀ a ∈ A, ¬ G a) → RepS X.K (msk H' (Ow O' (GA A G))) H' sh v d A → Q v H') (Bx X W ms σ H O G)
abbrev CEo (X : Cx) (W : WX) (ms : Ms) (sh : Shp) (e : Expr) (f : Rho → R D) : Prop := PE X e (tEo X W ms sh f)
/-- an operand: a pure value, or what stands in a slot -/
inductive Opd where
  | val (d : D)
  | slot (i : Nat)
def dropX : Option D → Option D
  | some (.dict _) => none
  | x => x
theorem dropX_some {o : Option D} {d : D} (h : dropX o = some d) : o = some d := by
  unfold dropX at h
  split at h
  · cases h
  · exact h
def Opd.get (r : Rho) : Opd → Option D
  | .val d => some d
  | .slot i => dropX ((r[i]?).join)
def RepO (K : PySem.W.Frag) (M : Hp) (σ : L2.St) (v : V) : Opd → Prop
  | .val d => Rep K M v d
  | .slot i => σ[i]? = some (some v)
theorem RepO.mono {K : PySem.W.Frag} {M M' : Hp} {σ : L2.St} {v : V} {o : Opd} (h : RepO K M σ v o) (s : Same M M') : RepO K M' σ v o := by
  cases o with
  | val d => exact Rep.mono s h
  | slot i => exact h
/-- what can be read now -/
def RepB (K : PySem.W.Frag) (M H : Hp) (v : V) (d : D) : Prop := ∃ sh A, Shp.ok sh = true ∧ RepS K M H sh v d A
theorem RepB.rep {K : PySem.W.Frag} {H : Hp} {W : Gh} {v : V} {d : D} (h : RepB K (msk H W) H v d) : Rep K H v d := by
  obtain ⟨sh, A, k, h⟩ := h
  cases h with
  | pur h => exact h.mono msk_sub
  | lst h r => exact .lst (.inl h) (r.mono msk_sub)
  | exn => cases k
theorem RepB.lstI {K : PySem.W.Frag} {H : Hp} {W : Gh} {v : V} {ds : List D} (h : RepB K (msk H W) H v (.list ds)) : ∃ a xs, v = .ref a ∧ Rd H a (.lst xs) ∧ RepAll K (msk H W) xs ds := by
  obtain ⟨sh, A, k, h⟩ := h
  cases h with
  | pur h =>
    obtain ⟨a, xs, e, q, r⟩ := h.lstI
    exact ⟨a, xs, e, DL.Same.rd msk_sub q, r⟩
  | lst h r => exact ⟨_, _, rfl, .inl h, r⟩
theorem RepB.tupI {K : PySem.W.Frag} {H : Hp} {W : Gh} {v : V} {ds : List D} (h : RepB K (msk H W) H v (.tuple ds)) : ∃ a xs, v = .ref a ∧ SqT K H a xs ∧ RepAll K (msk H W) xs ds := by
  obtain ⟨sh, A, k, h⟩ := h
  cases h with
  | pur h =>
    obtain ⟨a, xs, e, q, r⟩ := h.tupI
    exact ⟨a, xs, e, DL.Same.tup msk_sub q, r⟩
theorem RepB.strI {K : PySem.W.Frag} {M H : Hp} {v : V} {x : Str} (h : RepB K M H v (.str x)) : v = .str x := by
  obtain ⟨sh, A, k, h⟩ := h
  cases h with
  | pur h => exact h.strI
theorem RepB.intI {K : PySem.W.Frag} {M H : Hp} {v : V} {x : Int} (h : RepB K M H v (.int x)) : v = .int x := by
  obtain ⟨sh, A, k, h⟩ := h
  cases h with
  | pur h => exact h.intI
theorem RepB.blI {K : PySem.W.Frag} {M H : Hp} {v : V} {x : Bool} (h : RepB K M H v (.bool x)) : v = .bl x := by
  obtain ⟨sh, A, k, h⟩ := h
  cases h with
  | pur h => exact h.blI
theorem RepB.nonI {K : PySem.W.Frag} {M H : Hp} {v : V} (h : RepB K M H v .none) : v = .non := by
  obtain ⟨sh, A, k, h⟩ := h
  cases h with
  | pur h => exact h.nonI
theorem RepB.purI {K : PySem.W.Frag} {M H : Hp} {v : V} {d : D} (h : Rep K M v d) : RepB K M H v d := ⟨.pur, [], rfl, .pur h⟩
theorem RepO.get {K : PySem.W.Frag} {ms : Ms} {σ : L2.St} {H : Hp} {r : Rho} {O : Own} {G : Gh} {v : V} {o : Opd} {d : D} (R : Rel K ms σ H r O G) (h : RepO K (msk H (Ow O G)) σ v o) (e : o.get r = some d) : RepB K (msk H (Ow O G)) H v d := by
  cases o with
  | val x => cases e; exact .purI h
  | slot i =>
    have e' : r[i]? = some (some d) := by
      have e : (r[i]?).join = some d := dropX_some e
      cases q : r[i]? with
      | none => rw [q] at e; cases e
      | some x => rw [q] at e; exact congrArg some e
    obtain ⟨u, e1, rs⟩ := R.slot i d e'
    have e2 : σ[i]? = some (some v) := h
    rw [e1] at e2
    cases e2
    refine ⟨_, _, ?_, rs⟩
    cases q : (ms i).sh with
    | exn a =>
      rw [q] at rs
      obtain ⟨_, c, rfl⟩ := rs.exnI
      have e : dropX ((r[i]?).join) = some _ := e
      rw [e'] at e
      cases e
    | _ => rfl
def tO (X : Cx) (W : WX) (ms : Ms) (f : Rho → R Opd) : TE := fun σ H Q => ∃ r O G, Rel X.K ms σ H r O G ∧
  (f r).on (fun d r' => ∀ v H' O', Rel X.K ms σ H' r' O' G → Ext H O G H' O' G → RepO X.K (msk H' (Ow O' G)) σ v d → Q v H') (Bx X W ms σ H O G)
abbrev CO (X : Cx) (W : WX) (ms : Ms) (e : Expr) (f : Rho → R Opd) : Prop := PE X e (tO X W ms f)
/-- arguments -/
inductive RepOs (K : PySem.W.Frag) (M : Hp) (σ : L2.St) : List V → List Opd → Prop
  | nil : RepOs K M σ [] []
  | cons {v : V} {vs : List V} {o : Opd} {os : List Opd} : RepO K M σ v o → RepOs K M σ vs os → RepOs K M σ (v :: vs) (o :: os)
def tA (X : Cx) (W : WX) (ms : Ms) (f : Rho → R (List Opd)) : TA := fun σ H Q => ∃ r O G, Rel X.K ms σ H r O G ∧
  (f r).on (fun d r' => ∀ v H' O', Rel X.K ms σ H' r' O' G → Ext H O G H' O' G → RepOs X.K (msk H' (Ow O' G)) σ v d → Q v H') (Bx X W ms σ H O G)
abbrev CA (X : Cx) (W : WX) (ms : Ms) (es : List Expr) (f : Rho → R (List Opd)) : Prop := PA X es (tA X W ms f)
/-- a test -/
def tT (X : Cx) (W : WX) (ms : Ms) (f : Rho → R Bool) : TT := fun σ H Q => ∃ r O G, Rel X.K ms σ H r O G ∧
  (f r).on (fun d r' => ∀ H' O', Rel X.K ms σ H' r' O' G → Ext H O G H' O' G → Q d H') (Bx X W ms σ H O G)
abbrev CT (X : Cx) (W : WX) (ms : Ms) (e : Expr) (f : Rho → R Bool) : Prop := PT X e (tT X W ms f)
/-- statements -/
inductive SR where
  | nx (r : Rho)
  | rt (d : D) (r : Rho)
  | bk (r : Rho)
  | ct (r : Rho)
  | exc (c : Str) (x : D) (r : Rho)
  | bad
structure Fx (ms : Ms) (σ σ' : L2.St) : Prop where
  len : σ'.length = σ.length
  at_ : ∀ i, (ms i).fx = true → σ'[i]? = σ[i]?
theorem Fx.refl {ms : Ms} {σ : L2.St} : Fx ms σ σ := ⟨rfl, fun _ _ => rfl⟩
theorem Fx.trans {ms : Ms} {σ σ' σ'' : L2.St} (a : Fx ms σ σ') (b : Fx ms σ' σ'') : Fx ms σ σ'' := ⟨b.len.trans a.len, fun i h => (b.at_ i h).trans (a.at_ i h)⟩
/-- what is wanted behind a statement that began at σ, H, O (rs: what a return hands out) -/
def SBx (X : Cx) (W : WX) (ms : Ms) (σ : L2.St) (H : Hp) (O : Own) (G : Gh) (c : Str) (x : D) (r' : Rho) : Prop :=
  ∀ cv dx σ' H' O', Rel X.K ms σ' H' r' O' G → Ext H O G H' O' G → Fx ms σ σ' → ExcR X H' c x cv dx → W cv dx σ' H'
def SOn (X : Cx) (W : WX) (ms : Ms) (rs : Shp) (E : Ends) (σ : L2.St) (H : Hp) (O : Own) (G : Gh) : SR → Prop
  | .nx r' => ∀ σ' H' O', Rel X.K ms σ' H' r' O' G → Ext H O G H' O' G → Fx ms σ σ' → E.nx σ' H'
  | .bk r' => ∀ σ' H' O', Rel X.K ms σ' H' r' O' G → Ext H O G H' O' G → Fx ms σ σ' → E.bk σ' H'
  | .ct r' => ∀ σ' H' O', Rel X.K ms σ' H' r' O' G → Ext H O G H' O' G → Fx ms σ σ' → E.ct σ' H'
  | .rt d r' => ∀ v σ' H' O' A, Rel X.K ms σ' H' r' O' (GA A G) → Ext H O G H' O' (GA A G) → (∀ a ∈ A, ¬ G a) → Fx ms σ σ' → RepS X.K (msk H' (Ow O' (GA A G))) H' rs v d A → E.rt v H'
  | .exc c x r' => SBx X W ms σ H O G c x r'
  | .bad => False
def tS (X : Cx) (W : WX) (ms : Ms) (rs : Shp) (g : Rho → SR) : TS := fun E σ H => ∃ r O G, Rel X.K ms σ H r O G ∧ SOn X W ms rs E σ H O G (g r)
abbrev CS (X : Cx) (W : WX) (ms : Ms) (rs : Shp) (st : Stmt) (g : Rho → SR) : Prop := PS X st (tS X W ms rs g)
abbrev CSs (X : Cx) (W : WX) (ms : Ms) (rs : Shp) (sts : List Stmt) (g : Rho → SR) : Prop := PSs X sts (tS X W ms rs g)

/-! ## weakening, steps -/
section
variable {X : Cx} {W : WX} {ms : Ms} {rs : Shp} {σ : L2.St} {H H1 : Hp} {r : Rho} {O O1 : Own} {G : Gh}
theorem _root_.L2.PE.weak {e : Expr} {t t' : TE} (h : PE X e t) (w : ∀ σ H Q, t' σ H Q → t σ H Q) : PE X e t' := ⟨fun pins s σ H Q I q => h.run pins s σ H Q I (w σ H Q q)⟩
theorem _root_.L2.PT.weak {e : Expr} {t t' : TT} (h : PT X e t) (w : ∀ σ H Q, t' σ H Q → t σ H Q) : PT X e t' := ⟨fun pins s σ H Q I q => h.run pins s σ H Q I (w σ H Q q)⟩
theorem _root_.L2.PA.weak {e : List Expr} {t t' : TA} (h : PA X e t) (w : ∀ σ H Q, t' σ H Q → t σ H Q) : PA X e t' := ⟨fun pos pins s σ H Q I q => h.run pos pins s σ H Q I (w σ H Q q)⟩
theorem _root_.L2.PS.weak {e : Stmt} {t t' : TS} (h : PS X e t) (w : ∀ D σ H, t' D σ H → t D σ H) : PS X e t' := ⟨fun pins s σ H D I q => h.run pins s σ H D I (w D σ H q)⟩
theorem _root_.L2.PSs.weak {e : List Stmt} {t t' : TS} (h : PSs X e t) (w : ∀ D σ H, t' D σ H → t D σ H) : PSs X e t' := ⟨fun pins s σ H D I q => h.run pins s σ H D I (w D σ H q)⟩
theorem bxm {α : Type} {x : R α} {A : α → Rho → Prop} (e : Ext H O G H1 O1 G) (h : x.on A (Bx X W ms σ H O G)) : x.on A (Bx X W ms σ H1 O1 G) := h.mono (fun _ _ z => z) fun _ _ _ z => z.mono e
theorem tE_step {f : Rho → R D} {A : D → Rho → Prop} {Q : VK} (h : Rel X.K ms σ H r O G) (hh : (f r).on A (Bx X W ms σ H O G))
    (q : ∀ d r' v H' O', A d r' → Rel X.K ms σ H' r' O' G → Ext H O G H' O' G → Rep X.K (msk H' (Ow O' G)) v d → Q v H') : tE X W ms f σ H Q :=
  ⟨r, O, G, h, hh.mono (fun d r' a v H' O' h1 e1 p => q d r' v H' O' a h1 e1 p) fun _ _ _ b => b⟩
theorem tO_step {f : Rho → R Opd} {A : Opd → Rho → Prop} {Q : VK} (h : Rel X.K ms σ H r O G) (hh : (f r).on A (Bx X W ms σ H O G))
    (q : ∀ d r' v H' O', A d r' → Rel X.K ms σ H' r' O' G → Ext H O G H' O' G → RepO X.K (msk H' (Ow O' G)) σ v d → Q v H') : tO X W ms f σ H Q :=
  ⟨r, O, G, h, hh.mono (fun d r' a v H' O' h1 e1 p => q d r' v H' O' a h1 e1 p) fun _ _ _ b => b⟩
theorem tA_step {f : Rho → R (List Opd)} {A : List Opd → Rho → Prop} {Q : List V → Hp → Prop} (h : Rel X.K ms σ H r O G) (hh : (f r).on A (Bx X W ms σ H O G))
    (q : ∀ d r' v H' O', A d r' → Rel X.K ms σ H' r' O' G → Ext H O G H' O' G → RepOs X.K (msk H' (Ow O' G)) σ v d → Q v H') : tA X W ms f σ H Q :=
  ⟨r, O, G, h, hh.mono (fun d r' a v H' O' h1 e1 p => q d r' v H' O' a h1 e1 p) fun _ _ _ b => b⟩
theorem tT_step {f : Rho → R Bool} {A : Bool → Rho → Prop} {Q : Bool → Hp → Prop} (h : Rel X.K ms σ H r O G) (hh : (f r).on A (Bx X W ms σ H O G))
    (q : ∀ d r' H' O', A d r' → Rel X.K ms σ H' r' O' G → Ext H O G H' O' G → Q d H') : tT X W ms f σ H Q :=
  ⟨r, O, G, h, hh.mono (fun d r' a H' O' h1 e1 => q d r' H' O' a h1 e1) fun _ _ _ b => b⟩
theorem tEo_step {sh : Shp} {f : Rho → R D} {A : D → Rho → Prop} {Q : VK} (h : Rel X.K ms σ H r O G) (hh : (f r).on A (Bx X W ms σ H O G))
    (q : ∀ d r' v H' O' B, A d r' → Rel X.K ms σ H' r' O' (GA B G) → Ext H O G H' O' (GA B G) → (∀ a ∈ B, ¬ G a) → RepS X.K (msk H' (Ow O' (GA B G))) H' sh v d B → Q v H') : tEo X W ms sh f σ H Q :=
  ⟨r, O, G, h, hh.mono (fun d r' a v H' O' B h1 e1 n p => q d r' v H' O' B a h1 e1 n p) fun _ _ _ b => b⟩
theorem RepOs.mono {K : PySem.W.Frag} {M M' : Hp} {σ : L2.St} (s : Same M M') : ∀ {vs : List V} {os : List Opd}, RepOs K M σ vs os → RepOs K M' σ vs os
  | _, _, .nil => .nil
  | _, _, .cons a b => .cons (a.mono s) (RepOs.mono s b)

/-! ## names, constants, operands -/
def eVar (i : Nat) : Rho → R D := fun r => .ofO ((r[i]?).join) r
def eCst (d : D) : Rho → R D := fun r => .ok d r
def oVal (f : Rho → R D) : Rho → R Opd := fun r => (f r).bind fun d r' => .ok (.val d) r'
def oSlot (i : Nat) : Rho → R Opd := fun r => match (r[i]?).join with
  | some _ => .ok (.slot i) r
  | none => .bad
theorem join_some {r : Rho} {i : Nat} {d : D} (h : (r[i]?).join = some d) : r[i]? = some (some d) := by
  cases q : r[i]? with
  | none => rw [q] at h; cases h
  | some x => rw [q] at h; exact congrArg some h
theorem ce_var (i : Nat) {x : Str} {pos : Pos} (hs : (ms i).sh = .pur := by rfl) (hN : X.N[i]? = some x := by rfl) (hv : Vis X.env.scope x := by first | exact Or.inl rfl | exact Or.inr (Or.inl rfl) | exact Or.inr (Or.inr rfl)) (hd : (x == ("__debug__" : Str)) = false := by decide)
    (hcd : (x == ("__classdict__" : Str)) = false := by decide) : CE X W ms (.Name x pos) (eVar i) :=
  (pe_var hN hv hd hcd).weak fun σ H Q ⟨r, O, G, h, q⟩ => by
    obtain ⟨d, e, q⟩ := on_ofO q
    obtain ⟨v, e1, rp⟩ := h.pur (join_some e) hs
    exact ⟨v, e1, q v H O h .refl rp⟩
theorem co_slot (i : Nat) {x : Str} {pos : Pos} (hN : X.N[i]? = some x := by rfl) (hv : Vis X.env.scope x := by first | exact Or.inl rfl | exact Or.inr (Or.inl rfl) | exact Or.inr (Or.inr rfl)) (hd : (x == ("__debug__" : Str)) = false := by decide)
    (hcd : (x == ("__classdict__" : Str)) = false := by decide) : CO X W ms (.Name x pos) (oSlot i) :=
  (pe_var hN hv hd hcd).weak fun σ H Q ⟨r, O, G, h, q⟩ => by
    unfold oSlot at q
    cases e : (r[i]?).join with
    | none => rw [e] at q; exact False.elim q
    | some d =>
      rw [e] at q
      obtain ⟨v, e1, rs⟩ := h.slot i d (join_some e)
      exact ⟨v, e1, q v H O h .refl e1⟩
/-- a name whose object is handed on: its slot is empty behind it -/
def eMv (i : Nat) : Rho → R D := fun r => match (r[i]?).join with
  | some d => .ok d (r.set i none)
  | none => .bad
theorem ceo_mv (i : Nat) {sh : Shp} {x : Str} {pos : Pos} (hs : (ms i).sh = sh := by rfl) (hN : X.N[i]? = some x := by rfl) (hv : Vis X.env.scope x := by first | exact Or.inl rfl | exact Or.inr (Or.inl rfl) | exact Or.inr (Or.inr rfl)) (hd : (x == ("__debug__" : Str)) = false := by decide)
    (hcd : (x == ("__classdict__" : Str)) = false := by decide) : CEo X W ms sh (.Name x pos) (eMv i) :=
  (pe_var hN hv hd hcd).weak fun σ H Q ⟨r, O, G, h, q⟩ => by
    unfold eMv at q
    cases e : (r[i]?).join with
    | none => rw [e] at q; exact False.elim q
    | some d =>
      rw [e] at q
      obtain ⟨v, e1, R1, E1, rs⟩ := h.mv (join_some e)
      rw [hs] at rs
      exact ⟨v, e1, q v H _ _ R1 E1 (fun a ha g => h.dG i a ha g) rs⟩
/-- an object of one's own becomes pure -/
theorem ext_free {A : List Addr} {H' : Hp} {O' : Own} (e : Ext H O G H' O' (GA A G)) : Ext H O G H' O' G :=
  ⟨e.sm.trans (msk_less fun a z => z.elim (fun g => .inl (.inr g)) .inr), fun a g => ⟨g, (e.gh a g).2⟩⟩
theorem rep_free {K : PySem.W.Frag} {A : List Addr} {O' : Own} {sh : Shp} {v : V} {d : D} (R : Rel K ms σ H r O' (GA A G)) (hG : ∀ a ∈ A, ¬ G a) (k : Shp.ok sh = true) (h : RepS K (msk H (Ow O' (GA A G))) H sh v d A) : Rep K (msk H (Ow O' G)) v d := by
  have sm : Same (msk H (Ow O' (GA A G))) (msk H (Ow O' G)) := msk_less fun a z => z.elim (fun g => .inl (.inr g)) .inr
  cases h with
  | pur h => exact h.mono sm
  | lst h q =>
    refine .lst (.inl (msk_mk ?_ h)) (q.mono sm)
    rintro (g | ⟨i, hi⟩)
    · exact hG _ List.mem_cons_self g
    · exact R.dG i _ hi (.inl List.mem_cons_self)
  | exn => cases k
theorem ce_own {sh : Shp} {e : Expr} {f : Rho → R D} (h : CEo X W ms sh e f) (k : Shp.ok sh = true := by rfl) : CE X W ms e f :=
  h.weak fun σ H Q ⟨r, O, G, h, q⟩ => ⟨r, O, G, h, q.mono (fun d r' q v H' O' A h1 e1 n p => q v H' O' h1.free (ext_free e1) (rep_free h1 n k p)) fun _ _ _ b => b⟩
theorem co_val {e : Expr} {f : Rho → R D} (h : CE X W ms e f) : CO X W ms e (oVal f) :=
  h.weak fun σ H Q ⟨r, O, G, h, q⟩ => by
    unfold oVal at q
    rw [on_bind] at q
    exact ⟨r, O, G, h, q⟩
theorem ce_int {i : Int} {j : Nat} {pos : Pos} : CE X W ms (.Constant (.int i) j pos) (eCst (.int i)) := pe_int.weak fun σ H Q ⟨r, O, G, h, q⟩ => q _ H O h .refl (.int i)
theorem ce_bl {i : Bool} {j : Nat} {pos : Pos} : CE X W ms (.Constant (.bool i) j pos) (eCst (.bool i)) := pe_bl.weak fun σ H Q ⟨r, O, G, h, q⟩ => q _ H O h .refl (.bl i)
theorem ce_non {j : Nat} {pos : Pos} : CE X W ms (.Constant .none j pos) (eCst .none) := pe_non.weak fun σ H Q ⟨r, O, G, h, q⟩ => q _ H O h .refl .non
theorem ce_str {i : Str} {j : Nat} {pos : Pos} : CE X W ms (.Constant (.str i) j pos) (eCst (.str i)) := pe_str.weak fun σ H Q ⟨r, O, G, h, q⟩ => q _ H O h .refl (.str i)
/-- a constant of the module -/
theorem ce_glob {x : Str} {v : V} {u : Value} {d : D} {pos : Pos} (hm : X.mg x = some u) (rv : RelV v u) (hr : ∀ H, Rep X.K H v d) (hg : Gl X x := by rfl) (hd : (x == ("__debug__" : Str)) = false := by decide) : CE X W ms (.Name x pos) (eCst d) :=
  (pe_glob hg hm rv hd).weak fun σ H Q ⟨r, O, G, h, q⟩ => q _ H O h .refl (hr _)
theorem ce_globS {x z : Str} {pos : Pos} (hm : ∃ t, X.mg x = some (.str z t)) (hg : Gl X x := by rfl) (hd : (x == ("__debug__" : Str)) = false := by decide) : CE X W ms (.Name x pos) (eCst (.str z)) := by
  obtain ⟨t, hm⟩ := hm
  exact ce_glob (v := .str z) hm ⟨t, rfl⟩ (fun _ => .str z) hg hd
theorem ce_globI {x : Str} {z : Int} {pos : Pos} (hm : ∃ t, X.mg x = some (.int z t)) (hg : Gl X x := by rfl) (hd : (x == ("__debug__" : Str)) = false := by decide) : CE X W ms (.Name x pos) (eCst (.int z)) := by
  obtain ⟨t, hm⟩ := hm
  exact ce_glob (v := .int z) hm ⟨t, rfl⟩ (fun _ => .int z) hg hd
end

/-! ## operators -/
/-- what a two-place operation gives (some d), from what can be read; new objects may be made -/
def SemR (X : Cx) (r : R2) (sem : D → D → Option D) : Prop := ∀ (x y : V) (a b d : D) (H : Hp) (W : Gh) (Q : VK), RepB X.K (msk H W) H x a → RepB X.K (msk H W) H y b → (∀ p, W p → H p ≠ none) → sem a b = some d →
  (∀ v H', Same H H' → Rep X.K (msk H' W) v d → Q v H') → r x y H Q
def eBin (sem : D → D → Option D) (f g : Rho → R Opd) : Rho → R D := fun r => (f r).bind fun a r1 => (g r1).bind fun b r2 => .ofO ((a.get r2).bind fun x => (b.get r2).bind fun y => sem x y) r2
theorem bind_some {α β : Type} {o : Option α} {k : α → Option β} {b : β} (h : o.bind k = some b) : ∃ a, o = some a ∧ k a = some b := by
  cases o with
  | none => cases h
  | some a => exact ⟨a, rfl, h⟩
section
variable {X : Cx} {W : WX} {ms : Ms} {rs : Shp} {a b c : Expr} {f g k : Rho → R Opd} {pos : Pos}
theorem bin_read {r : R2} {sem : D → D → Option D} (hs : SemR X r sem) {σ : L2.St} {H : Hp} {Q : VK} (h : tE X W ms (eBin sem f g) σ H Q) : tOp r (tO X W ms f) (tO X W ms g) σ H Q := by
  obtain ⟨ρ, O, G, R, h⟩ := h
  unfold eBin at h
  rw [on_bind] at h
  refine tO_step R h fun a1 r1 v1 H1 O1 h1 R1 E1 p1 => ?_
  rw [on_bind] at h1
  refine tO_step R1 (bxm E1 h1) fun a2 r2 v2 H2 O2 h2 R2 E2 p2 => ?_
  obtain ⟨d, e, h2⟩ := on_ofO h2
  obtain ⟨x, ex, e⟩ := bind_some e
  obtain ⟨y, ey, e⟩ := bind_some e
  refine hs v1 v2 x y d H2 (Ow O2 G) Q ((p1.mono E2.sm).get R2 ex) (p2.get R2 ey) R2.trO e fun v H' sm rp => ?_
  exact h2 v H' O2 (R2.same sm) (E1.trans (E2.trans (.same sm R2.tr))) rp
theorem ce_bin {op : Operator} {r : R2} {sem : D → D → Option D} (ho : OpR X (binaryOp op) r) (hs : SemR X r sem) (ha : CO X W ms a f) (hb : CO X W ms b g) : CE X W ms (.BinOp a op b pos) (eBin sem f g) :=
  (pe_op ho ha hb).weak fun _ _ _ h => bin_read hs h
theorem ce_cmp {op : CmpOp} {r : R2} {sem : D → D → Option D} (ho : OpR X (compareOp op) r) (hs : SemR X r sem) (hm : behindInMarks op b = false) (ha : CO X W ms a f) (hb : CO X W ms b g) : CE X W ms (.Compare a [op] [b] pos) (eBin sem f g) :=
  (pe_cmpR ho ha hb hm).weak fun _ _ _ h => bin_read hs h
/-- a < b < c -/
def eChain (sem sem' : D → D → Option D) (f g k : Rho → R Opd) : Rho → R D := fun r => (f r).bind fun a r1 => (g r1).bind fun b r2 =>
  match ((a.get r2).bind fun x => (b.get r2).bind fun y => sem x y) with
  | some (.bool true) => (k r2).bind fun c r3 => .ofO ((b.get r3).bind fun x => (c.get r3).bind fun y => sem' x y) r3
  | some (.bool false) => .ok (.bool false) r2
  | _ => .bad
theorem ce_chain {op op' : CmpOp} {r r' : R2} {sem sem' : D → D → Option D} (ho : OpR X (compareOp op) r) (ho' : OpR X (compareOp op') r') (hs : SemR X r sem) (hs' : SemR X r' sem') (ha : CO X W ms a f) (hb : CO X W ms b g) (hc : CO X W ms c k)
    (hl : lastMarks [op, op'] [b, c] = false := by rfl) : CE X W ms (.Compare a [op, op'] [b, c] pos) (eChain sem sem' f g k) :=
  (pe_chain ho ho' ha hb hc hl).weak fun σ H Q h => by
    obtain ⟨ρ, O, G, R, h⟩ := h
    unfold eChain at h
    rw [on_bind] at h
    refine tO_step R h fun a1 r1 v1 H1 O1 h1 R1 E1 p1 => ?_
    rw [on_bind] at h1
    refine tO_step R1 (bxm E1 h1) fun a2 r2 v2 H2 O2 h2 R2 E2 p2 => ?_
    cases e : (a1.get r2).bind fun x => (a2.get r2).bind fun y => sem x y with
    | none => rw [e] at h2; exact False.elim h2
    | some d =>
      rw [e] at h2
      obtain ⟨x, ex, e⟩ := bind_some e
      obtain ⟨y, ey, e⟩ := bind_some e
      cases d with
      | bool t =>
        refine hs v1 v2 x y _ H2 (Ow O2 G) _ ((p1.mono E2.sm).get R2 ex) (p2.get R2 ey) R2.trO e fun v H3 sm rp => ?_
        have R3 := R2.same sm
        have E3 : Ext H2 O2 G H3 O2 G := .same sm R2.tr
        refine ⟨t, rp.blI, ?_⟩
        cases t with
        | true =>
          simp only at h2
          rw [on_bind] at h2
          rw [if_pos rfl]
          refine tO_step R3 (bxm (E1.trans (E2.trans E3)) (by simpa using h2)) fun a4 r4 v4 H4 O4 h4 R4 E4 p4 => ?_
          obtain ⟨d, e, h4⟩ := on_ofO h4
          obtain ⟨x', ex', e⟩ := bind_some e
          obtain ⟨y', ey', e⟩ := bind_some e
          refine hs' v2 v4 x' y' d H4 (Ow O4 G) Q ((p2.mono (E3.sm.trans E4.sm)).get R4 ex') (p4.get R4 ey') R4.trO e fun v H' sm rp => ?_
          exact h4 v H' O4 (R4.same sm) (E1.trans (E2.trans (E3.trans (E4.trans (.same sm R4.tr))))) rp
        | false =>
          rw [if_neg (by decide)]
          exact h2 (.bl false) H3 O2 R3 (E1.trans (E2.trans E3)) (.bl false)
      | _ => exact False.elim h2
end
end DL
end

section
set_option maxHeartbeats 1000000
namespace DL
open PySem PySem.Spec PyProof.Rows L2

/-! ## truth, and, or, not, if-else -/
theorem ite_some {c : Prop} [Decidable c] {α : Type} {x y : α} (h : (if c then some x else none) = some y) : c ∧ x = y := by
  split at h
  · rename_i q
    exact ⟨q, Option.some.inj h⟩
  · cases h
def tru : D → Option Bool
  | .none => some false
  | .bool b => some b
  | .int i => some (i != 0)
  | .str s => if s.length ≤ sizeLine then some ((s.length : Int) != 0) else none
  | .list xs => some (!xs.isEmpty)
  | .tuple xs => some (!xs.isEmpty)
  | .dict _ => none
theorem isEmpty_rep {K : PySem.W.Frag} {H : Hp} {vs : List V} {ds : List D} (h : RepAll K H vs ds) : ds.isEmpty = vs.isEmpty := by cases h <;> rfl
theorem tru_ok {K : PySem.W.Frag} {H : Hp} {W : Gh} {v : V} {d : D} {k : Bool} (h : RepB K (msk H W) H v d) (e : tru d = some k) : TruV K v H k := by
  cases d with
  | none => rw [h.nonI]; exact (Option.some.inj e).symm
  | bool b => rw [h.blI]; exact (Option.some.inj e).symm
  | int i => rw [h.intI]; exact (Option.some.inj e).symm
  | str s =>
    rw [h.strI]
    have e : (if s.length ≤ sizeLine then some ((s.length : Int) != 0) else none) = some k := e
    obtain ⟨hz, e2⟩ := ite_some e
    exact ⟨hz, e2.symm⟩
  | list xs =>
    obtain ⟨a, ys, rfl, q, r⟩ := h.lstI
    refine .inl ⟨ys, .inl q, ?_⟩
    rw [← isEmpty_rep r]
    exact (Option.some.inj e).symm
  | tuple xs =>
    obtain ⟨a, ys, rfl, q, r⟩ := h.tupI
    refine .inr (.inl ⟨ys, q, ?_⟩)
    rw [← isEmpty_rep r]
    exact (Option.some.inj e).symm
  | dict _ => cases e
section
variable {X : Cx} {W : WX} {ms : Ms} {rs : Shp} {a b c : Expr} {rest : List Expr} {f g k : Rho → R Opd} {e1 e2 : Rho → R D} {t1 t2 : Rho → R Bool} {pos : Pos}
def tTru (f : Rho → R Opd) : Rho → R Bool := fun r => (f r).bind fun o r1 => .ofO ((o.get r1).bind tru) r1
/-- an expression as a test -/
theorem ct_tru (ha : CO X W ms a f) (he : ∀ whole, isTrue a X.env whole = (do let v ← whole; standAt a.pos; holding [v] (truthy v)) := by intro _; rfl) : CT X W ms a (tTru f) :=
  (pt_truth ha he).weak fun σ H Q ⟨r, O, G, R, h⟩ => by
    unfold tTru at h
    rw [on_bind] at h
    refine tO_step R h fun o r1 v H1 O1 h1 R1 E1 p1 => ?_
    obtain ⟨k, e, h1⟩ := on_ofO h1
    obtain ⟨d, ed, e⟩ := bind_some e
    exact ⟨k, tru_ok (p1.get R1 ed) e, h1 H1 O1 R1 E1⟩
def tNot (t : Rho → R Bool) : Rho → R Bool := fun r => (t r).bind fun b r1 => .ok (!b) r1
theorem ct_not (h : CT X W ms a t1) : CT X W ms (.UnaryOp .Not a pos) (tNot t1) :=
  (pt_not h).weak fun σ H Q ⟨r, O, G, R, h⟩ => by
    unfold tNot at h
    rw [on_bind] at h
    exact tT_step R h fun b r1 H1 O1 h1 R1 E1 => h1 H1 O1 R1 E1
abbrev CW (X : Cx) (W : WX) (ms : Ms) (e : Expr) (f : Rho → R Bool) : Prop := PW X e (tT X W ms f)
theorem _root_.L2.PW.weak {e : Expr} {t t' : TT} (h : PW X e t) (w : ∀ σ H Q, t' σ H Q → t σ H Q) : PW X e t' := ⟨fun wh pins s σ H Q I q => h.run wh pins s σ H Q I (w σ H Q q)⟩
def tAnd (t u : Rho → R Bool) : Rho → R Bool := fun r => (t r).bind fun b r1 => if b = true then u r1 else .ok false r1
def tOr (t u : Rho → R Bool) : Rho → R Bool := fun r => (t r).bind fun b r1 => if b = true then .ok true r1 else u r1
theorem cw_and1 (h : CT X W ms a t1) : CW X W ms (.BoolOp .And [a] pos) t1 := pw_and1 h
theorem cw_or1 (h : CT X W ms a t1) : CW X W ms (.BoolOp .Or [a] pos) t1 := pw_or1 h
theorem cw_and (h : CT X W ms a t1) (q : CW X W ms (.BoolOp .And (b :: rest) pos) t2) : CW X W ms (.BoolOp .And (a :: b :: rest) pos) (tAnd t1 t2) :=
  (pw_and h q).weak fun σ H Q ⟨r, O, G, R, h⟩ => by
    unfold tAnd at h
    rw [on_bind] at h
    refine tT_step R h fun b r1 H1 O1 h1 R1 E1 => ?_
    cases b with
    | true => exact tT_step R1 (bxm E1 h1) fun b r2 H2 O2 h2 R2 E2 => h2 H2 O2 R2 (E1.trans E2)
    | false => exact h1 H1 O1 R1 E1
theorem cw_or (h : CT X W ms a t1) (q : CW X W ms (.BoolOp .Or (b :: rest) pos) t2) : CW X W ms (.BoolOp .Or (a :: b :: rest) pos) (tOr t1 t2) :=
  (pw_or h q).weak fun σ H Q ⟨r, O, G, R, h⟩ => by
    unfold tOr at h
    rw [on_bind] at h
    refine tT_step R h fun b r1 H1 O1 h1 R1 E1 => ?_
    cases b with
    | true => exact h1 H1 O1 R1 E1
    | false => exact tT_step R1 (bxm E1 h1) fun b r2 H2 O2 h2 R2 E2 => h2 H2 O2 R2 (E1.trans E2)
theorem ct_of (h : CW X W ms a t1) : CT X W ms a t1 := PW.pt h
/-- as values -/
def eAnd (f g : Rho → R D) : Rho → R D := fun r => (f r).bind fun d r1 => match tru d with
  | some true => g r1
  | some false => .ok d r1
  | none => .bad
def eOr (f g : Rho → R D) : Rho → R D := fun r => (f r).bind fun d r1 => match tru d with
  | some true => .ok d r1
  | some false => g r1
  | none => .bad
def eNot (f : Rho → R D) : Rho → R D := fun r => (f r).bind fun d r1 => match tru d with
  | some b => .ok (.bool !b) r1
  | none => .bad
theorem ce_one {op : BoolOp} (h : CE X W ms a e1) : CE X W ms (.BoolOp op [a] pos) e1 := pe_one h
theorem ce_and (h : CE X W ms a e1) (q : CE X W ms (.BoolOp .And (b :: rest) pos) e2) : CE X W ms (.BoolOp .And (a :: b :: rest) pos) (eAnd e1 e2) :=
  (pe_andT h q).weak fun σ H Q ⟨r, O, G, R, h⟩ => by
    unfold eAnd at h
    rw [on_bind] at h
    refine tE_step R h fun d r1 v H1 O1 h1 R1 E1 p1 => ?_
    cases e : tru d with
    | none => rw [e] at h1; exact False.elim h1
    | some k =>
      rw [e] at h1
      refine ⟨k, tru_ok (.purI p1) e, ?_⟩
      cases k with
      | true => exact tE_step R1 (bxm E1 h1) fun b r2 v2 H2 O2 h2 R2 E2 => h2 v2 H2 O2 R2 (E1.trans E2)
      | false => exact h1 v H1 O1 R1 E1 p1
theorem ce_or (h : CE X W ms a e1) (q : CE X W ms (.BoolOp .Or (b :: rest) pos) e2) : CE X W ms (.BoolOp .Or (a :: b :: rest) pos) (eOr e1 e2) :=
  (pe_orT h q).weak fun σ H Q ⟨r, O, G, R, h⟩ => by
    unfold eOr at h
    rw [on_bind] at h
    refine tE_step R h fun d r1 v H1 O1 h1 R1 E1 p1 => ?_
    cases e : tru d with
    | none => rw [e] at h1; exact False.elim h1
    | some k =>
      rw [e] at h1
      refine ⟨k, tru_ok (.purI p1) e, ?_⟩
      cases k with
      | true => exact h1 v H1 O1 R1 E1 p1
      | false => exact tE_step R1 (bxm E1 h1) fun b r2 v2 H2 O2 h2 R2 E2 => h2 v2 H2 O2 R2 (E1.trans E2)
theorem ce_not (h : CE X W ms a e1) : CE X W ms (.UnaryOp .Not a pos) (eNot e1) :=
  (pe_notT h).weak fun σ H Q ⟨r, O, G, R, h⟩ => by
    unfold eNot at h
    rw [on_bind] at h
    refine tE_step R h fun d r1 v H1 O1 h1 R1 E1 p1 => ?_
    cases e : tru d with
    | none => rw [e] at h1; exact False.elim h1
    | some k =>
      rw [e] at h1
      exact ⟨k, tru_ok (.purI p1) e, h1 _ H1 O1 R1 E1 (.bl _)⟩
def eIf (t : Rho → R Bool) (f g : Rho → R D) : Rho → R D := fun r => (t r).bind fun b r1 => if b = true then f r1 else g r1
theorem ce_if (hc : CT X W ms c t1) (ha : CE X W ms a e1) (hb : CE X W ms b e2) : CE X W ms (.IfExp c a b pos) (eIf t1 e1 e2) :=
  (pe_ifExp hc ha hb).weak fun σ H Q ⟨r, O, G, R, h⟩ => by
    unfold eIf at h
    rw [on_bind] at h
    refine tT_step R h fun b r1 H1 O1 h1 R1 E1 => ?_
    cases b with
    | true => exact tE_step R1 (bxm E1 h1) fun b r2 v2 H2 O2 h2 R2 E2 => h2 v2 H2 O2 R2 (E1.trans E2)
    | false => exact tE_step R1 (bxm E1 h1) fun b r2 v2 H2 O2 h2 R2 E2 => h2 v2 H2 O2 R2 (E1.trans E2)
end

/-! ## argument lists, displays -/
def aNil : Rho → R (List Opd) := fun r => .ok [] r
def aCons (f : Rho → R Opd) (g : Rho → R (List Opd)) : Rho → R (List Opd) := fun r => (f r).bind fun o r1 => (g r1).bind fun os r2 => .ok (o :: os) r2
def gets (r : Rho) : List Opd → Option (List D)
  | [] => some []
  | o :: os => (o.get r).bind fun d => (gets r os).bind fun ds => some (d :: ds)
inductive RepBs (K : PySem.W.Frag) (M H : Hp) : List V → List D → Prop
  | nil : RepBs K M H [] []
  | cons {v : V} {vs : List V} {d : D} {ds : List D} : RepB K M H v d → RepBs K M H vs ds → RepBs K M H (v :: vs) (d :: ds)
theorem RepOs.gets {K : PySem.W.Frag} {ms : Ms} {σ : L2.St} {H : Hp} {r : Rho} {O : Own} {G : Gh} (R : Rel K ms σ H r O G) : ∀ {vs : List V} {os : List Opd} {ds : List D}, RepOs K (msk H (Ow O G)) σ vs os → DL.gets r os = some ds → RepBs K (msk H (Ow O G)) H vs ds
  | _, _, _, .nil, e => by cases e; exact .nil
  | _, _, _, .cons a b, e => by
    obtain ⟨d, e1, e⟩ := bind_some e
    obtain ⟨ds, e2, e⟩ := bind_some e
    cases e
    exact .cons (a.get R e1) (RepOs.gets R b e2)
/-- all of them pure values -/
def vals : List Opd → Option (List D)
  | [] => some []
  | .val d :: os => (vals os).bind fun ds => some (d :: ds)
  | .slot _ :: _ => none
theorem RepOs.vals {K : PySem.W.Frag} {M : Hp} {σ : L2.St} : ∀ {vs : List V} {os : List Opd} {ds : List D}, RepOs K M σ vs os → DL.vals os = some ds → RepAll K M vs ds
  | _, _, _, .nil, e => by cases e; exact .nil
  | _, _, _, .cons (o := o) a b, e => by
    cases o with
    | val d =>
      obtain ⟨ds, e2, e⟩ := bind_some e
      cases e
      exact .cons a (RepOs.vals b e2)
    | slot i => cases e
section
variable {X : Cx} {W : WX} {ms : Ms} {rs : Shp} {a b c : Expr} {es : List Expr} {f g k : Rho → R Opd} {as : Rho → R (List Opd)} {pos : Pos}
theorem ca_nil : CA X W ms [] aNil := pa_nil.weak fun σ H Q ⟨r, O, G, R, h⟩ => h [] H O R .refl .nil
theorem ca_cons (ha : CO X W ms a f) (hr : CA X W ms es as) (hs : starEach (a :: es) X.env = (false, eval a X.env) :: starEach es X.env := by rfl) : CA X W ms (a :: es) (aCons f as) :=
  (pa_cons ha hr hs).weak fun σ H Q ⟨r, O, G, R, h⟩ => by
    unfold aCons at h
    rw [on_bind] at h
    refine tO_step R h fun o r1 v H1 O1 h1 R1 E1 p1 => ?_
    rw [on_bind] at h1
    refine tA_step R1 (bxm E1 h1) fun os r2 vs H2 O2 h2 R2 E2 p2 => ?_
    exact h2 _ H2 O2 R2 (E1.trans E2) (.cons (p1.mono E2.sm) p2)
def eTup (as : Rho → R (List Opd)) : Rho → R D := fun r => (as r).bind fun os r1 => .ofO ((vals os).bind fun ds => if ds.length ≤ sizeLine then some (.tuple ds) else none) r1
def eLst (as : Rho → R (List Opd)) : Rho → R D := fun r => (as r).bind fun os r1 => .ofO ((vals os).bind fun ds => if ds.length ≤ sizeLine then some (.list ds) else none) r1
theorem ce_tup {x1 : Nat} (h : CA X W ms es as) : CE X W ms (.Tuple es x1 pos) (eTup as) :=
  (pe_tup h).weak fun σ H Q ⟨r, O, G, R, h⟩ => by
    unfold eTup at h
    rw [on_bind] at h
    refine tA_step R h fun os r1 vs H1 O1 h1 R1 E1 p1 => ?_
    obtain ⟨d, e, h1⟩ := on_ofO h1
    obtain ⟨ds, e1, e⟩ := bind_some e
    obtain ⟨hz, rfl⟩ := ite_some e
    have rp := p1.vals e1
    refine ⟨by rw [rp.len]; exact hz, fun p hp => ?_⟩
    have sm : Same H1 (upd H1 p (.tup vs)) := fun b u e => by rw [upd_ne (ne_of_none e hp)]; exact e
    exact h1 _ _ O1 (R1.same sm) (E1.trans (.same sm R1.tr)) (.tup (.inl (.inl (msk_mk (R1.nowned hp) upd_same))) (rp.mono (msk_same sm)))
theorem own_new {σ : L2.St} {r : Rho} {O : Own} {G : Gh} {H : Hp} {p : Addr} {vs : List V} {ds : List D} (R : Rel X.K ms σ H r O G) (hp : H p = none) (rp : RepAll X.K (msk H (Ow O G)) vs ds) :
    Rel X.K ms σ (upd H p (.lst vs)) r O (GA [p] G) ∧ Ext H O G (upd H p (.lst vs)) O (GA [p] G) ∧ (∀ a ∈ [p], ¬ G a) ∧ RepS X.K (msk (upd H p (.lst vs)) (Ow O (GA [p] G))) (upd H p (.lst vs)) .lst (.ref p) (.list ds) [p] := by
  obtain ⟨R2, E2⟩ := R.guard (o := .lst vs) hp
  refine ⟨R2, E2, fun a ha g => R.tr a g (by rw [List.mem_singleton.mp ha]; exact hp), .lst upd_same (rp.mono E2.sm)⟩
theorem ceo_lst (h : CA X W ms es as) : CEo X W ms .lst (.List es pos) (eLst as) :=
  (pe_lst h).weak fun σ H Q ⟨r, O, G, R, h⟩ => by
    unfold eLst at h
    rw [on_bind] at h
    refine tA_step R h fun os r1 vs H1 O1 h1 R1 E1 p1 => ?_
    obtain ⟨d, e, h1⟩ := on_ofO h1
    obtain ⟨ds, e1, e⟩ := bind_some e
    obtain ⟨hz, rfl⟩ := ite_some e
    have rp := p1.vals e1
    refine ⟨by rw [rp.len]; exact hz, fun p hp => ?_⟩
    obtain ⟨R2, E2, n, rs⟩ := own_new R1 hp rp
    exact h1 _ _ O1 [p] R2 (E1.trans E2) n rs
end

/-! ## calls of built-ins -/
/-- a pure value out -/
def SemC (X : Cx) (r : List V → Hp → VK → Prop) (sem : List D → Option D) : Prop := ∀ (xs : List V) (ds : List D) (d : D) (H : Hp) (W : Gh) (Q : VK), RepBs X.K (msk H W) H xs ds → (∀ p, W p → H p ≠ none) → sem ds = some d →
  (∀ v H', Same H H' → Rep X.K (msk H' W) v d → Q v H') → r xs H Q
/-- a new list out -/
def SemL (X : Cx) (r : List V → Hp → VK → Prop) (sem : List D → Option (List D)) : Prop := ∀ (xs : List V) (ds es : List D) (H : Hp) (W : Gh) (Q : VK), RepBs X.K (msk H W) H xs ds → (∀ p, W p → H p ≠ none) → sem ds = some es →
  (∀ vs H' p, Same H H' → H' p = none → RepAll X.K (msk H' W) vs es → Q (.ref p) (upd H' p (.lst vs))) → r xs H Q
def eCall (sem : List D → Option D) (as : Rho → R (List Opd)) : Rho → R D := fun r => (as r).bind fun os r1 => .ofO ((gets r1 os).bind sem) r1
def eCallL (sem : List D → Option (List D)) (as : Rho → R (List Opd)) : Rho → R D := fun r => (as r).bind fun os r1 => .ofO ((gets r1 os).bind fun ds => (sem ds).bind fun es => some (.list es)) r1
section
variable {X : Cx} {W : WX} {ms : Ms} {rs : Shp} {e o : Expr} {es : List Expr} {f : Rho → R Opd} {as : Rho → R (List Opd)} {pos p apos : Pos} {x name : Str} {r : List V → Hp → VK → Prop} {id T : String} {sem : List D → Option D} {semL : List D → Option (List D)}
theorem call_read (hs : SemC X r sem) {σ : L2.St} {H : Hp} {Q : VK} (h : tE X W ms (eCall sem as) σ H Q) : tCB r (tA X W ms as) σ H Q := by
  obtain ⟨ρ, O, G, R, h⟩ := h
  unfold eCall at h
  rw [on_bind] at h
  refine tA_step R h fun os r1 vs H1 O1 h1 R1 E1 p1 => ?_
  obtain ⟨d, e, h1⟩ := on_ofO h1
  obtain ⟨ds, e1, e⟩ := bind_some e
  exact hs vs ds d H1 (Ow O1 G) Q (p1.gets R1 e1) R1.trO e fun v H' sm rp => h1 v H' O1 (R1.same sm) (E1.trans (.same sm R1.tr)) rp
theorem callL_read (hs : SemL X r semL) {σ : L2.St} {H : Hp} {Q : VK} (h : tEo X W ms .lst (eCallL semL as) σ H Q) : tCB r (tA X W ms as) σ H Q := by
  obtain ⟨ρ, O, G, R, h⟩ := h
  unfold eCallL at h
  rw [on_bind] at h
  refine tA_step R h fun os r1 vs H1 O1 h1 R1 E1 p1 => ?_
  obtain ⟨d, e, h1⟩ := on_ofO h1
  obtain ⟨ds, e1, e⟩ := bind_some e
  obtain ⟨es, e2, e⟩ := bind_some e
  cases e
  refine hs vs ds es H1 (Ow O1 G) Q (p1.gets R1 e1) R1.trO e2 fun vs' H' p sm hp rp => ?_
  obtain ⟨R2, E2, n, rs⟩ := own_new (R1.same sm) hp rp
  exact h1 _ _ O1 [p] R2 (E1.trans ((Ext.same sm R1.tr).trans E2)) n rs
theorem ce_callB (hc : CallR X (.builtin id) r) (hs : SemC X r sem) (hm : X.mg x = none) (hv : bootBuiltins x = some (.builtin id)) (ha : CA X W ms (e :: es) as) (hg : Gl X x := by rfl) (hn : x ≠ "__name__" := by decide) (hdb : (x == ("__debug__" : Str)) = false := by decide)
    (he : starEach (e :: es) X.env = (false, eval e X.env) :: starEach es X.env := by rfl) (hpl : (backTo pos (starEach es X.env)).any (·.1) = false := by rfl) : CE X W ms (.Call (.Name x p) (e :: es) [] pos) (eCall sem as) :=
  (pe_callB hc hg hm hv ha hn hdb he hpl).weak fun _ _ _ h => call_read hs h
theorem ce_callTy (hc : CallR X (.type T) r) (hs : SemC X r sem) (hm : X.mg x = none) (hv : bootBuiltins x = some (.type T)) (ha : CA X W ms (e :: es) as) (hg : Gl X x := by rfl) (hn : x ≠ "__name__" := by decide) (hdb : (x == ("__debug__" : Str)) = false := by decide)
    (he : starEach (e :: es) X.env = (false, eval e X.env) :: starEach es X.env := by rfl) (hpl : (backTo pos (starEach es X.env)).any (·.1) = false := by rfl) : CE X W ms (.Call (.Name x p) (e :: es) [] pos) (eCall sem as) :=
  (pe_callTy hc hg hm hv ha hn hdb he hpl).weak fun _ _ _ h => call_read hs h
theorem ceo_callB (hc : CallR X (.builtin id) r) (hs : SemL X r semL) (hm : X.mg x = none) (hv : bootBuiltins x = some (.builtin id)) (ha : CA X W ms (e :: es) as) (hg : Gl X x := by rfl) (hn : x ≠ "__name__" := by decide) (hdb : (x == ("__debug__" : Str)) = false := by decide)
    (he : starEach (e :: es) X.env = (false, eval e X.env) :: starEach es X.env := by rfl) (hpl : (backTo pos (starEach es X.env)).any (·.1) = false := by rfl) : CEo X W ms .lst (.Call (.Name x p) (e :: es) [] pos) (eCallL semL as) :=
  (pe_callB hc hg hm hv ha hn hdb he hpl).weak fun _ _ _ h => callL_read hs h
theorem ceo_callTy (hc : CallR X (.type T) r) (hs : SemL X r semL) (hm : X.mg x = none) (hv : bootBuiltins x = some (.type T)) (ha : CA X W ms (e :: es) as) (hg : Gl X x := by rfl) (hn : x ≠ "__name__" := by decide) (hdb : (x == ("__debug__" : Str)) = false := by decide)
    (he : starEach (e :: es) X.env = (false, eval e X.env) :: starEach es X.env := by rfl) (hpl : (backTo pos (starEach es X.env)).any (·.1) = false := by rfl) : CEo X W ms .lst (.Call (.Name x p) (e :: es) [] pos) (eCallL semL as) :=
  (pe_callTy hc hg hm hv ha hn hdb he hpl).weak fun _ _ _ h => callL_read hs h
/-! methods of built-in types whose receiver is not changed: the receiver is the first of the values -/
def tyD (T : String) : D → Bool
  | .str _ => T == "str"
  | .list _ => T == "list"
  | _ => false
theorem ty_ok {K : PySem.W.Frag} {H : Hp} {W : Gh} {v : V} {d : D} (h : RepB K (msk H W) H v d) (e : tyD T d = true) : tyV K T v H := by
  cases d with
  | str s =>
    have e : (T == "str") = true := e
    rw [h.strI, eq_of_beq e]
    rfl
  | list xs =>
    have e : (T == "list") = true := e
    obtain ⟨a, ys, rfl, q, r⟩ := h.lstI
    exact .inl ⟨eq_of_beq e, ys, .inl q⟩
  | _ => cases e
/-- o.m(e, ..) -/
def SemM (X : Cx) (r : V → List V → Hp → VK → Prop) (sem : D → List D → Option D) : Prop := ∀ (x : V) (c : D) (xs : List V) (ds : List D) (d : D) (H : Hp) (W : Gh) (Q : VK), RepB X.K (msk H W) H x c → RepBs X.K (msk H W) H xs ds → (∀ p, W p → H p ≠ none) → sem c ds = some d →
  (∀ v H', Same H H' → Rep X.K (msk H' W) v d → Q v H') → r x xs H Q
def SemML (X : Cx) (r : V → List V → Hp → VK → Prop) (sem : D → List D → Option (List D)) : Prop := ∀ (x : V) (c : D) (xs : List V) (ds es : List D) (H : Hp) (W : Gh) (Q : VK), RepB X.K (msk H W) H x c → RepBs X.K (msk H W) H xs ds → (∀ p, W p → H p ≠ none) → sem c ds = some es →
  (∀ vs H' p, Same H H' → H' p = none → RepAll X.K (msk H' W) vs es → Q (.ref p) (upd H' p (.lst vs))) → r x xs H Q
def eMeth (T : String) (sem : D → List D → Option D) (f : Rho → R Opd) (as : Rho → R (List Opd)) : Rho → R D := fun r => (f r).bind fun o r1 => match (o.get r1).map (tyD T) with
  | some true => (as r1).bind fun os r2 => .ofO ((o.get r2).bind fun c => (gets r2 os).bind fun ds => sem c ds) r2
  | _ => .bad
def eMethL (T : String) (sem : D → List D → Option (List D)) (f : Rho → R Opd) (as : Rho → R (List Opd)) : Rho → R D := fun r => (f r).bind fun o r1 => match (o.get r1).map (tyD T) with
  | some true => (as r1).bind fun os r2 => .ofO ((o.get r2).bind fun c => (gets r2 os).bind fun ds => (sem c ds).bind fun es => some (.list es)) r2
  | _ => .bad
theorem map_true {o : Option D} (h : ∀ b, o.map (tyD T) = some b → b = true → False) : True := trivial
theorem ty_of {o : Option D} (h : o.map (tyD T) = some true) : ∃ d, o = some d ∧ tyD T d = true := by
  cases o with
  | none => cases h
  | some d => exact ⟨d, rfl, Option.some.inj h⟩
variable {rm : V → List V → Hp → VK → Prop} {semM : D → List D → Option D} {semML : D → List D → Option (List D)}
theorem ce_meth (pa : PlainAttrs T) (slot : Slot T name id) (hty : typeOf (.builtin id) = pure (.type "method_descriptor")) (hm : MtR X id rm) (hs : SemM X rm semM) (ho : CO X W ms o f) (ha : CA X W ms (e :: es) as)
    (hbase : attributeBase o name X.env (eval o X.env) = eval o X.env := by rfl)
    (hfew : ((backTo pos (starEach (e :: es) X.env)).all (fun x => !x.1) && (backToKw pos (keywordEach [] X.env)).all (fun x => x.1.isSome)
      && decide ((e :: es).length + ([] : List Keyword).length + (if ([] : List Keyword).isEmpty then 0 else 1) < 30)) = true := by rfl)
    (hline : (apos.endLine == pos.line) = true := by rfl) (hss : starEach (e :: es) X.env = (false, eval e X.env) :: starEach es X.env := by rfl) (hplain : (backTo pos (starEach es X.env)).any (·.1) = false := by rfl) :
    CE X W ms (.Call (.Attribute o name apos) (e :: es) [] pos) (eMeth T semM f as) :=
  (pe_bm pa slot hty hm ho ha hbase hfew hline hss hplain).weak fun σ H Q ⟨r, O, G, R, h⟩ => by
    unfold eMeth at h
    rw [on_bind] at h
    refine tO_step R h fun o1 r1 v H1 O1 h1 R1 E1 p1 => ?_
    split at h1
    · rename_i q
      obtain ⟨d, ed, q⟩ := ty_of q
      refine ⟨ty_ok (p1.get R1 ed) q, ?_⟩
      rw [on_bind] at h1
      refine tA_step R1 (bxm E1 h1) fun os r2 vs H2 O2 h2 R2 E2 p2 => ?_
      obtain ⟨d2, e, h2⟩ := on_ofO h2
      obtain ⟨c, ec, e⟩ := bind_some e
      obtain ⟨ds, e1, e⟩ := bind_some e
      exact hs v c vs ds d2 H2 (Ow O2 G) Q ((p1.mono E2.sm).get R2 ec) (p2.gets R2 e1) R2.trO e fun u H' sm rp => h2 u H' O2 (R2.same sm) (E1.trans (E2.trans (.same sm R2.tr))) rp
    · exact False.elim h1
theorem ceo_meth (pa : PlainAttrs T) (slot : Slot T name id) (hty : typeOf (.builtin id) = pure (.type "method_descriptor")) (hm : MtR X id rm) (hs : SemML X rm semML) (ho : CO X W ms o f) (ha : CA X W ms (e :: es) as)
    (hbase : attributeBase o name X.env (eval o X.env) = eval o X.env := by rfl)
    (hfew : ((backTo pos (starEach (e :: es) X.env)).all (fun x => !x.1) && (backToKw pos (keywordEach [] X.env)).all (fun x => x.1.isSome)
      && decide ((e :: es).length + ([] : List Keyword).length + (if ([] : List Keyword).isEmpty then 0 else 1) < 30)) = true := by rfl)
    (hline : (apos.endLine == pos.line) = true := by rfl) (hss : starEach (e :: es) X.env = (false, eval e X.env) :: starEach es X.env := by rfl) (hplain : (backTo pos (starEach es X.env)).any (·.1) = false := by rfl) :
    CEo X W ms .lst (.Call (.Attribute o name apos) (e :: es) [] pos) (eMethL T semML f as) :=
  (pe_bm pa slot hty hm ho ha hbase hfew hline hss hplain).weak fun σ H Q ⟨r, O, G, R, h⟩ => by
    unfold eMethL at h
    rw [on_bind] at h
    refine tO_step R h fun o1 r1 v H1 O1 h1 R1 E1 p1 => ?_
    split at h1
    · rename_i q
      obtain ⟨d, ed, q⟩ := ty_of q
      refine ⟨ty_ok (p1.get R1 ed) q, ?_⟩
      rw [on_bind] at h1
      refine tA_step R1 (bxm E1 h1) fun os r2 vs H2 O2 h2 R2 E2 p2 => ?_
      obtain ⟨d2, e, h2⟩ := on_ofO h2
      obtain ⟨c, ec, e⟩ := bind_some e
      obtain ⟨ds, e1, e⟩ := bind_some e
      obtain ⟨es, e2, e⟩ := bind_some e
      cases e
      refine hs v c vs ds es H2 (Ow O2 G) Q ((p1.mono E2.sm).get R2 ec) (p2.gets R2 e1) R2.trO e2 fun us H' p sm hp rp => ?_
      obtain ⟨R3, E3, n, rs⟩ := own_new (R2.same sm) hp rp
      exact h2 _ _ O2 [p] R3 (E1.trans (E2.trans ((Ext.same sm R2.tr).trans E3))) n rs
    · exact False.elim h1
/-! a method that changes a list of one's own in a slot: append, extend, pop, reverse -/
/-- what the list becomes, and what is handed back -/
def SemX (X : Cx) (r : V → List V → Hp → VK → Prop) (sem : List D → List D → Option (List D × D)) : Prop := ∀ (a : Addr) (vs : List V) (cs : List D) (xs : List V) (ds es : List D) (d : D) (H : Hp) (W : Gh) (Q : VK), H a = some (.lst vs) → W a → RepAll X.K (msk H W) vs cs → RepAll X.K (msk H W) xs ds → sem cs ds = some (es, d) →
  (∀ v ws, RepAll X.K (msk H W) ws es → Rep X.K (msk H W) v d → Q v (upd H a (.lst ws))) → r (.ref a) xs H Q
def eMut (i : Nat) (sem : List D → List D → Option (List D × D)) (as : Rho → R (List Opd)) : Rho → R D := fun r => match (r[i]?).join with
  | some (.list _) => (as r).bind fun os r2 => match (r2[i]?).join with
    | some (.list cs) => match (vals os).bind fun ds => sem cs ds with
      | some (es, d) => .ok d (r2.set i (some (.list es)))
      | none => .bad
    | _ => .bad
  | _ => .bad
variable {semX : List D → List D → Option (List D × D)}
theorem mut_read {i : Nat} {σ : L2.St} {H : Hp} {Q : VK} (hi : (ms i).sh = .lst) (hs : SemX X rm semX) (h : tE X W ms (eMut i semX as) σ H Q) : ∃ v, σ[i]? = some (some v) ∧ tyV X.K "list" v H ∧ tA X W ms as σ H fun xs H2 => rm v xs H2 Q := by
  obtain ⟨r, O, G, R, h⟩ := h
  unfold eMut at h
  cases e0 : (r[i]?).join with
  | none => rw [e0] at h; exact False.elim h
  | some d0 =>
    rw [e0] at h
    cases d0 with
    | list c0 =>
      obtain ⟨v, ev, rs⟩ := R.slot i _ (join_some e0)
      rw [hi] at rs
      obtain ⟨a, vs0, ds0, rfl, _, eA, ha0, _⟩ := rs.lstI
      refine ⟨_, ev, .inl ⟨rfl, vs0, .inl (.inl ha0)⟩, ?_⟩
      simp only at h
      rw [on_bind] at h
      refine tA_step R h fun os r2 xs H2 O2 h2 R2 E2 p2 => ?_
      cases e1 : (r2[i]?).join with
      | none => rw [e1] at h2; exact False.elim h2
      | some d1 =>
        rw [e1] at h2
        cases d1 with
        | list cs =>
          simp only at h2
          cases e2 : (vals os).bind fun ds => semX cs ds with
          | none => rw [e2] at h2; exact False.elim h2
          | some q =>
            obtain ⟨es, d⟩ := q
            rw [e2] at h2
            obtain ⟨ds, e3, e4⟩ := bind_some e2
            obtain ⟨v2, ev2, rs2⟩ := R2.slot i _ (join_some e1)
            rw [hi] at rs2
            obtain ⟨a2, vs2, ds2, rfl, ed, eA2, ha2, ra2⟩ := rs2.lstI
            rw [ev] at ev2
            cases ev2
            cases ed
            refine hs a vs2 cs xs ds es d H2 (Ow O2 G) Q ha2 (.inr ⟨i, by rw [eA2]; exact List.mem_cons_self⟩) ra2 (p2.vals e3) e4 fun v ws rw' rd => ?_
            obtain ⟨R3, E3⟩ := R2.mut (vs := vs2) (vs' := ws) hi (join_some e1) eA2 rw'
            exact h2 v _ O2 R3 (E2.trans E3) (Rep.mono E3.sm rd)
        | _ => exact False.elim h2
    | _ => exact False.elim h
theorem ce_mut {i : Nat} {y : Str} {ypos : Pos} (hi : (ms i).sh = .lst) (slot : Slot "list" name id) (hty : typeOf (.builtin id) = pure (.type "method_descriptor")) (hm : MtR X id rm) (hs : SemX X rm semX) (ha : CA X W ms (e :: es) as)
    (hN : X.N[i]? = some y := by rfl) (hv : Vis X.env.scope y := by first | exact Or.inl rfl | exact Or.inr (Or.inl rfl) | exact Or.inr (Or.inr rfl)) (hd : (y == ("__debug__" : Str)) = false := by decide) (hcd : (y == ("__classdict__" : Str)) = false := by decide)
    (hbase : attributeBase (.Name y ypos) name X.env (eval (.Name y ypos) X.env) = eval (.Name y ypos) X.env := by rfl)
    (hfew : ((backTo pos (starEach (e :: es) X.env)).all (fun x => !x.1) && (backToKw pos (keywordEach [] X.env)).all (fun x => x.1.isSome)
      && decide ((e :: es).length + ([] : List Keyword).length + (if ([] : List Keyword).isEmpty then 0 else 1) < 30)) = true := by rfl)
    (hline : (apos.endLine == pos.line) = true := by rfl) (hss : starEach (e :: es) X.env = (false, eval e X.env) :: starEach es X.env := by rfl) (hplain : (backTo pos (starEach es X.env)).any (·.1) = false := by rfl) :
    CE X W ms (.Call (.Attribute (.Name y ypos) name apos) (e :: es) [] pos) (eMut i semX as) :=
  (pe_bm PySem.F.plainAttrs_list slot hty hm (pe_var hN hv hd hcd) ha hbase hfew hline hss hplain).weak fun σ H Q h => by
    obtain ⟨v, e1, e2, e3⟩ := mut_read hi hs h
    exact ⟨v, e1, e2, e3⟩
theorem ce_mut0 {i : Nat} {y : Str} {ypos : Pos} (hi : (ms i).sh = .lst) (slot : Slot "list" name id) (hty : typeOf (.builtin id) = pure (.type "method_descriptor")) (hm : MtR X id rm) (hs : SemX X rm semX)
    (hN : X.N[i]? = some y := by rfl) (hv : Vis X.env.scope y := by first | exact Or.inl rfl | exact Or.inr (Or.inl rfl) | exact Or.inr (Or.inr rfl)) (hd : (y == ("__debug__" : Str)) = false := by decide) (hcd : (y == ("__classdict__" : Str)) = false := by decide)
    (hbase : attributeBase (.Name y ypos) name X.env (eval (.Name y ypos) X.env) = eval (.Name y ypos) X.env := by rfl) (hline : (apos.endLine == pos.line) = true := by rfl) :
    CE X W ms (.Call (.Attribute (.Name y ypos) name apos) [] [] pos) (eMut i semX aNil) :=
  (pe_bm0 PySem.F.plainAttrs_list slot hty hm (pe_var hN hv hd hcd) hbase hline).weak fun σ H Q h => by
    obtain ⟨v, e1, e2, e3⟩ := mut_read hi hs h
    obtain ⟨r2, O2, G2, R2, e3⟩ := e3
    exact ⟨v, e1, e2, e3 [] H O2 R2 .refl .nil⟩
end
end DL
end

section
set_option maxHeartbeats 1000000
namespace DL
open PySem PySem.Spec PyProof.Rows L2

/-! ## statements -/
def SR.bind (s : SR) (k : Rho → SR) : SR := match s with
  | .nx r => k r
  | .rt d r => .rt d r
  | .bk r => .bk r
  | .ct r => .ct r
  | .exc c x r => .exc c x r
  | .bad => .bad
def R.toS {α : Type} (r : R α) (k : α → Rho → SR) : SR := match r with
  | .ok a r => k a r
  | .exc c x r => .exc c x r
  | .bad => .bad
section
variable {X : Cx} {W : WX} {ms : Ms} {rs : Shp} {σ σ1 : L2.St} {H H1 : Hp} {r r1 : Rho} {O O1 : Own} {G : Gh} {E : Ends}
theorem SOn.mono {σ1 : L2.St} (e : Ext H O G H1 O1 G) (f : Fx ms σ σ1) {s : SR} (h : SOn X W ms rs E σ H O G s) : SOn X W ms rs E σ1 H1 O1 G s := by
  cases s with
  | nx r' => exact fun σ' H' O' R e' f' => h σ' H' O' R (e.trans e') (f.trans f')
  | bk r' => exact fun σ' H' O' R e' f' => h σ' H' O' R (e.trans e') (f.trans f')
  | ct r' => exact fun σ' H' O' R e' f' => h σ' H' O' R (e.trans e') (f.trans f')
  | rt d r' => exact fun v σ' H' O' A R e' n f' q => h v σ' H' O' A R (e.trans e') n (f.trans f') q
  | exc c x r' => exact fun cv dx σ' H' O' R e' f' q => h cv dx σ' H' O' R (e.trans e') (f.trans f') q
  | bad => exact h
/-- from an expression's result to a statement's -/
theorem toS_on {α : Type} {x : R α} {k : α → Rho → SR} (h : SOn X W ms rs E σ H O G (x.toS k)) : x.on (fun a r' => SOn X W ms rs E σ H O G (k a r')) (Bx X W ms σ H O G) := by
  cases x with
  | ok a r' => exact h
  | exc c y r' => exact fun cv dx H' O' R e q => h cv dx σ H' O' R e Fx.refl q
  | bad => exact h
theorem tS_step {g : Rho → SR} {k : Rho → SR} (h : Rel X.K ms σ H r O G) (hh : SOn X W ms rs E σ H O G ((g r).bind k)) {N : L2.St → Hp → Prop}
    (q : ∀ r' σ' H' O', SOn X W ms rs E σ H O G (k r') → Rel X.K ms σ' H' r' O' G → Ext H O G H' O' G → Fx ms σ σ' → N σ' H') : tS X W ms rs g { E with nx := N } σ H := by
  refine ⟨r, O, G, h, ?_⟩
  cases e : g r with
  | nx r' => rw [e] at hh; exact fun σ' H' O' R' e' f' => q r' σ' H' O' hh R' e' f'
  | rt d r' => rw [e] at hh; exact hh
  | bk r' => rw [e] at hh; exact hh
  | ct r' => rw [e] at hh; exact hh
  | exc c x r' => rw [e] at hh; exact hh
  | bad => rw [e] at hh; exact hh
def sNil : Rho → SR := fun r => .nx r
def sSeq (g k : Rho → SR) : Rho → SR := fun r => (g r).bind k
theorem css_nil : CSs X W ms rs [] sNil := pss_nil.weak fun E σ H ⟨r, O, G, R, h⟩ => h σ H O R .refl .refl
theorem css_cons {st : Stmt} {rest : List Stmt} {g k : Rho → SR} (h1 : CS X W ms rs st g) (h2 : CSs X W ms rs rest k) : CSs X W ms rs (st :: rest) (sSeq g k) :=
  (pss_cons h1 h2).weak fun E σ H ⟨r, O, G, R, h⟩ => by
    unfold sSeq at h
    exact tS_step R h fun r' σ' H' O' hk R' e' f' => ⟨r', O', G, R', hk.mono e' f'⟩
theorem css_one {st : Stmt} {g : Rho → SR} (h1 : CS X W ms rs st g) : CSs X W ms rs [st] g := pss_one h1
def sPass : Rho → SR := fun r => .nx r
theorem cs_pass {pos : Pos} : CS X W ms rs (.Pass pos) sPass := ps_pass.weak fun E σ H ⟨r, O, G, R, h⟩ => h σ H O R .refl .refl
def sBreak : Rho → SR := fun r => .bk r
theorem cs_break {pos : Pos} : CS X W ms rs (.Break pos) sBreak := ps_break.weak fun E σ H ⟨r, O, G, R, h⟩ => h σ H O R .refl .refl
def sCont : Rho → SR := fun r => .ct r
theorem cs_continue {pos : Pos} : CS X W ms rs (.Continue pos) sCont := ps_continue.weak fun E σ H ⟨r, O, G, R, h⟩ => h σ H O R .refl .refl
theorem cs_doc {x : Str} {j : Nat} {pos pos' : Pos} : CS X W ms rs (.Expr (.Constant (.str x) j pos) pos') sPass := ps_doc.weak fun E σ H ⟨r, O, G, R, h⟩ => h σ H O R .refl .refl
def sExpr (f : Rho → R D) : Rho → SR := fun r => (f r).toS fun _ r1 => .nx r1
theorem cs_expr {e : Expr} {f : Rho → R D} {pos : Pos} (h : CE X W ms e f) (hs : swapsWith e none pos.line X.env = pure false := by rfl) : CS X W ms rs (.Expr e pos) (sExpr f) :=
  (ps_expr h hs).weak fun E σ H ⟨r, O, G, R, h⟩ => tE_step R (toS_on h) fun d r' v H' O' q R' e' _ => q σ H' O' R' e' .refl
def sRet (f : Rho → R D) : Rho → SR := fun r => (f r).toS fun d r1 => .rt d r1
theorem ga_nil {G : Gh} : GA [] G = G := funext fun a => propext ⟨fun h => h.elim (fun z => nomatch z) id, .inr⟩
theorem cs_ret {e : Expr} {f : Rho → R D} {pos : Pos} (h : CE X W ms e f) : CS X W ms .pur (.Return (some e) pos) (sRet f) :=
  (ps_ret h).weak fun E σ H ⟨r, O, G, R, h⟩ => tE_step R (toS_on h) fun d r' v H' O' q R' e' rp => q v σ H' O' [] (by rw [ga_nil]; exact R') (by rw [ga_nil]; exact e') (fun _ z => nomatch z) .refl (by rw [ga_nil]; exact .pur rp)
theorem cs_retO {sh : Shp} {e : Expr} {f : Rho → R D} {pos : Pos} (h : CEo X W ms sh e f) : CS X W ms sh (.Return (some e) pos) (sRet f) :=
  (ps_ret h).weak fun E σ H ⟨r, O, G, R, h⟩ => tEo_step R (toS_on h) fun d r' v H' O' A q R' e' n rp => q v σ H' O' A R' e' n .refl rp
def sRetN : Rho → SR := fun r => .rt .none r
theorem cs_retN {pos : Pos} : CS X W ms .pur (.Return none pos) sRetN :=
  ps_retN.weak fun E σ H ⟨r, O, G, R, h⟩ => h .non σ H O [] (by rw [ga_nil]; exact R) (by rw [ga_nil]; exact .refl) (fun _ z => nomatch z) .refl (by rw [ga_nil]; exact .pur .non)
def sIf (t : Rho → R Bool) (g k : Rho → SR) : Rho → SR := fun r => (t r).toS fun b r1 => if b = true then g r1 else k r1
theorem cs_if {c : Expr} {a b : List Stmt} {t : Rho → R Bool} {g k : Rho → SR} {pos : Pos} (hc : CT X W ms c t) (ha : CSs X W ms rs a g) (hb : CSs X W ms rs b k) : CS X W ms rs (.If c a b pos) (sIf t g k) :=
  (ps_if hc ha hb).weak fun E σ H ⟨r, O, G, R, h⟩ => tT_step R (toS_on h) fun b r' H' O' q R' e' => by
    cases b with
    | true => exact ⟨r', O', G, R', q.mono e' .refl⟩
    | false => exact ⟨r', O', G, R', q.mono e' .refl⟩
/-! assignment -/
def sSet (i : Nat) (f : Rho → R D) : Rho → SR := fun r => (f r).toS fun d r1 => .nx (r1.set i (some d))
theorem fx_set {i : Nat} {v : V} (h : (ms i).fx = false) : Fx ms σ (σ.set i (some v)) := ⟨List.length_set, fun j hj => by
  rw [List.getElem?_set_ne]
  intro e
  subst e
  rw [h] at hj
  cases hj⟩
theorem loc_lt {i : Nat} {x : Str} (R : Rel X.K ms σ H r O G) (hl : σ.length = X.N.length) (hN : X.N[i]? = some x) : i < r.length := by
  rw [R.len, hl]
  exact (List.getElem?_eq_some_iff.mp hN).1
/-- the slots are as many as the names -/
theorem _root_.L2.PS.lenW {X : Cx} {st : Stmt} {t t' : TS} (h : PS X st t) (w : ∀ D σ H, σ.length = X.N.length → t' D σ H → t D σ H) : PS X st t' := ⟨fun pins s σ H D I q => h.run pins s σ H D I (w D σ H I.len q)⟩
theorem _root_.L2.PE.lenW {X : Cx} {e : Expr} {t t' : TE} (h : PE X e t) (w : ∀ σ H Q, σ.length = X.N.length → t' σ H Q → t σ H Q) : PE X e t' := ⟨fun pins s σ H Q I q => h.run pins s σ H Q I (w σ H Q I.len q)⟩
theorem cs_set (i : Nat) {x : Str} {e : Expr} {f : Rho → R D} {pos pos' : Pos} (nd : X.N.Nodup) (he : CE X W ms e f) (hs : (ms i).sh = .pur := by rfl) (hf : (ms i).fx = false := by rfl) (hi : X.N[i]? = some x := by rfl) (hx : Loc X.env.scope x := by first | exact .inl rfl | exact .inr rfl)
    (hsw : swapsWith e (some (.Name x pos')) pos.line X.env = pure false := by rfl) (hfn : X.fn x = true ∨ X.env.scope.names.lookup x = some .local := by first | exact .inl rfl | exact .inr rfl | assumption) : CS X W ms rs (.Assign [.Name x pos'] e pos) (sSet i f) :=
  (ps_set nd hi hx he hsw hfn).lenW fun E σ H hl ⟨r, O, G, R, h⟩ => tE_step R (toS_on h) fun d r' v H' O' q R' e' rp => q (σ.set i (some v)) H' O' (R'.set hs (loc_lt R' hl hi) rp) e' (fx_set hf)
theorem cs_setO (i : Nat) {sh : Shp} {x : Str} {e : Expr} {f : Rho → R D} {pos pos' : Pos} (nd : X.N.Nodup) (he : CEo X W ms sh e f) (hs : (ms i).sh = sh := by rfl) (hf : (ms i).fx = false := by rfl) (hi : X.N[i]? = some x := by rfl) (hx : Loc X.env.scope x := by first | exact .inl rfl | exact .inr rfl)
    (hsw : swapsWith e (some (.Name x pos')) pos.line X.env = pure false := by rfl) (hfn : X.fn x = true ∨ X.env.scope.names.lookup x = some .local := by first | exact .inl rfl | exact .inr rfl | assumption) : CS X W ms rs (.Assign [.Name x pos'] e pos) (sSet i f) :=
  (ps_set nd hi hx he hsw hfn).lenW fun E σ H hl ⟨r, O, G, R, h⟩ => tEo_step R (toS_on h) fun d r' v H' O' A q R' e' n rp => by
    refine q (σ.set i (some v)) H' (updO O' i A) (R'.setOwn n (loc_lt R' hl hi) (by rw [hs]; exact rp)) ⟨e'.sm.trans (msk_less fun a z => ow_ga z), fun a g => ⟨g, (e'.gh a g).2⟩⟩ (fx_set hf)
/-- i op= e, a pure value -/
def sAug (i : Nat) (sem : D → D → Option D) (f : Rho → R Opd) : Rho → SR := fun r => match (r[i]?).join with
  | some x => (f r).toS fun o r1 => match (o.get r1).bind fun y => sem x y with
    | some d => .nx (r1.set i (some d))
    | none => .bad
  | none => .bad
/-- a op= b by values -/
def SemI (X : Cx) (r : TIp) (sem : D → D → Option D) : Prop := ∀ (x y : V) (a b d : D) (H : Hp) (W : Gh) (Q : VK), RepB X.K (msk H W) H x a → RepB X.K (msk H W) H y b → (∀ p, W p → H p ≠ none) → sem a b = some d →
  (∀ v H', Same H H' → Rep X.K (msk H' W) v d → Q v H') → r x y H Q
theorem cs_aug (i : Nat) {x : Str} {e : Expr} {f : Rho → R Opd} {op : Operator} {ti : TIp} {sem : D → D → Option D} {pos pos' : Pos} (nd : X.N.Nodup) (he : CO X W ms e f) (ho : PIp X op ti) (hse : SemI X ti sem) (hs : (ms i).sh = .pur := by rfl) (hf : (ms i).fx = false := by rfl) (hi : X.N[i]? = some x := by rfl)
    (hx : Loc X.env.scope x := by first | exact .inl rfl | exact .inr rfl) (hfn : X.fn x = true ∨ X.env.scope.names.lookup x = some .local := by first | exact .inl rfl | exact .inr rfl | assumption) : CS X W ms rs (.AugAssign (.Name x pos') op e pos) (sAug i sem f) :=
  (ps_aug nd hi hx he ho hfn).lenW fun E σ H hl ⟨r, O, G, R, h⟩ => by
    unfold sAug at h
    cases e0 : (r[i]?).join with
    | none => rw [e0] at h; exact False.elim h
    | some d0 =>
      rw [e0] at h
      obtain ⟨v0, ev, rp0⟩ := R.pur (join_some e0) hs
      refine ⟨v0, ev, tO_step R (toS_on h) fun o r1 v1 H1 O1 h1 R1 E1 p1 => ?_⟩
      cases e2 : (o.get r1).bind fun y => sem d0 y with
      | none => rw [e2] at h1; exact False.elim h1
      | some d =>
        rw [e2] at h1
        obtain ⟨y, ey, e3⟩ := bind_some e2
        refine hse v0 v1 d0 y d H1 (Ow O1 G) _ (.purI (rp0.mono E1.sm)) (p1.get R1 ey) R1.trO e3 fun v H' sm rp => ?_
        have R2 := R1.same sm
        exact h1 _ H' O1 (R2.set hs (loc_lt R2 hl hi) rp) (E1.trans (.same sm R1.tr)) (fx_set hf)
/-! targets: what a pure value becomes in the slots -/
def Only1 (is : List Nat) (σ σ' : L2.St) : Prop := ∀ j, j ∉ is → σ'[j]? = σ[j]?
def CG (X : Cx) (ms : Ms) (tg : Expr) (is : List Nat) (k : D → Rho → Option Rho) (g : TG) : Prop := PG X tg g ∧ ∀ {σ H r O G v d r'} {Q : L2.St → Hp → Prop}, Rel X.K ms σ H r O G → σ.length = X.N.length → Rep X.K (msk H (Ow O G)) v d → k d r = some r' →
  (∀ σ', Rel X.K ms σ' H r' O G → Fx ms σ σ' → Only1 is σ σ' → Q σ' H) → g v σ H Q
def CGs (X : Cx) (ms : Ms) (tgs : List Expr) (is : List Nat) (k : List D → Rho → Option Rho) (g : TGs) : Prop := PGs X tgs g ∧ ∀ {σ H r O G vs ds r'} {Q : L2.St → Hp → Prop}, Rel X.K ms σ H r O G → σ.length = X.N.length → RepAll X.K (msk H (Ow O G)) vs ds → k ds r = some r' →
  (∀ σ', Rel X.K ms σ' H r' O G → Fx ms σ σ' → Only1 is σ σ' → Q σ' H) → g vs σ H Q
def kName (i : Nat) : D → Rho → Option Rho := fun d r => some (r.set i (some d))
def kNil : List D → Rho → Option Rho := fun ds r => match ds with
  | [] => some r
  | _ => none
def kCons (k : D → Rho → Option Rho) (l : List D → Rho → Option Rho) : List D → Rho → Option Rho := fun ds r => match ds with
  | d :: ds => (k d r).bind fun r1 => l ds r1
  | [] => none
def kTup (n : Nat) (l : List D → Rho → Option Rho) : D → Rho → Option Rho := fun d r => match d with
  | .tuple ds => if ds.length = n then l ds r else none
  | _ => none
theorem cg_name (i : Nat) {x : Str} {pos : Pos} (nd : X.N.Nodup) (hs : (ms i).sh = .pur := by rfl) (hf : (ms i).fx = false := by rfl) (hi : X.N[i]? = some x := by rfl) (hx : Loc X.env.scope x := by first | exact .inl rfl | exact .inr rfl)
    (hfn : X.fn x = true ∨ X.env.scope.names.lookup x = some .local := by first | exact .inl rfl | exact .inr rfl | assumption) : CG X ms (.Name x pos) [i] (kName i) (gName i) :=
  ⟨pg_name nd hi hx hfn, fun {σ H r O G v d r' Q} R hl rp e q => by
    cases e
    exact q _ (R.set hs (loc_lt R hl hi) rp) (fx_set hf) fun j hj => List.getElem?_set_ne fun e => hj (by rw [e]; exact List.mem_cons_self)⟩
theorem cgs_nil : CGs X ms [] [] kNil gNil := ⟨pgs_nil, fun {σ H r O G vs ds r' Q} R hl rp e q => by
  cases rp with
  | nil => cases e; exact ⟨rfl, q σ R .refl fun _ _ => rfl⟩
  | cons _ _ => cases e⟩
theorem cgs_cons {e : Expr} {es : List Expr} {is js : List Nat} {k : D → Rho → Option Rho} {l : List D → Rho → Option Rho} {g : TG} {gs : TGs} (h1 : CG X ms e is k g) (h2 : CGs X ms es js l gs)
    (hs : (assignEach (e :: es) X.env).map (·.2) = assign e X.env :: (assignEach es X.env).map (·.2) := by rfl) : CGs X ms (e :: es) (is ++ js) (kCons k l) (gCons g gs) :=
  ⟨pgs_cons h1.1 h2.1 hs, fun {σ H r O G vs ds r' Q} R hl rp e q => by
    cases rp with
    | nil => cases e
    | cons a b =>
      obtain ⟨r1, e1, e2⟩ := bind_some e
      exact ⟨_, _, rfl, h1.2 R hl a e1 fun σ' R' f' o' => h2.2 R' (f'.len.trans hl) b e2 fun σ2 R2 f2 o2 => q σ2 R2 (f'.trans f2) fun j hj => (o2 j fun z => hj (List.mem_append_right _ z)).trans (o' j fun z => hj (List.mem_append_left _ z))⟩⟩
theorem cg_tup {es : List Expr} {is : List Nat} {k : Nat} {l : List D → Rho → Option Rho} {gs : TGs} {n : Nat} {pos : Pos} (hc : X.calm = true) (h : CGs X ms es is l gs)
    (hn : (assignEach es X.env).length = n := by rfl) (hst : (assignEach es X.env).findIdx? (·.1) = none := by rfl) : CG X ms (.Tuple es k pos) is (kTup n l) (gTup X.K n gs) :=
  ⟨pg_tup hc h.1 hn hst, fun {σ H r O G v d r' Q} R hl rp e q => by
    cases rp with
    | tup ht ra =>
      rename_i a xs ds
      have e : (if ds.length = n then l ds r else none) = some r' := e
      split at e
      · rename_i hz
        exact ⟨a, xs, rfl, DL.Same.tup msk_sub ht, by rw [ra.len]; exact hz, h.2 R hl ra e q⟩
      · cases e
    | _ => cases e⟩
def sAsg (k : D → Rho → Option Rho) (f : Rho → R D) : Rho → SR := fun r => (f r).toS fun d r1 => match k d r1 with
  | some r2 => .nx r2
  | none => .bad
theorem cs_asg {tg e : Expr} {is : List Nat} {k : D → Rho → Option Rho} {g : TG} {f : Rho → R D} {pos : Pos} (he : CE X W ms e f) (hg : CG X ms tg is k g) (hs : swapsWithSole [tg] e pos.line X.env = pure false := by rfl) (hw : swappedStores [tg] e X.env = pure none := by rfl)
    (h1 : (assignEach [tg] X.env).map (·.2) = [assign tg X.env] := by rfl) : CS X W ms rs (.Assign [tg] e pos) (sAsg k f) :=
  (ps_asg he hg.1 hs hw h1).lenW fun E σ H hl ⟨r, O, G, R, h⟩ => tE_step R (toS_on h) fun d r' v H' O' q R' e' rp => by
    cases e1 : k d r' with
    | none => rw [e1] at q; exact False.elim q
    | some r2 =>
      rw [e1] at q
      exact hg.2 R' hl rp e1 fun σ' R2 f2 _ => q σ' H' O' R2 e' f2
end
end DL
end

section
set_option maxHeartbeats 1000000
namespace DL
open PySem PySem.Spec PyProof.Rows L2

/-! ## what is walked -/
/-- J gives what stands for the items ds, one after another, while what stands in M stands -/
def WalkD (K : PySem.W.Frag) (J : It) (ds : List D) (M : Hp) : Prop := ∀ (H : Hp) (W : Gh), Same M (msk H W) → (∀ p, W p → H p ≠ none) →
  (∀ i d, ds[i]? = some d → J.go i H ∧ ∀ x H', J.yld i H x H' → Same H H' ∧ Rep K (msk H' W) x d) ∧ J.stop ds.length H
def tI (X : Cx) (W : WX) (ms : Ms) (f : Rho → R (List D)) : TI := fun σ H Z => ∃ r O G, Rel X.K ms σ H r O G ∧
  (f r).on (fun ds r' => ∀ J H' O', Rel X.K ms σ H' r' O' G → Ext H O G H' O' G → WalkD X.K J ds (msk H' (Ow O' G)) → Z J H') (Bx X W ms σ H O G)
abbrev CI (X : Cx) (W : WX) (ms : Ms) (tg e : Expr) (f : Rho → R (List D)) : Prop := PI X tg e (tI X W ms f)
section
variable {X : Cx} {W : WX} {ms : Ms} {rs : Shp} {σ σ1 : L2.St} {H H1 : Hp} {r r1 : Rho} {O O1 : Own} {G : Gh} {E : Ends} {tg e : Expr}
theorem _root_.L2.PI.weak {t t' : TI} (h : PI X tg e t) (w : ∀ σ H Q, t' σ H Q → t σ H Q) : PI X tg e t' := ⟨fun pins s σ H Q I q => h.run pins s σ H Q I (w σ H Q q)⟩
theorem tI_step {f : Rho → R (List D)} {A : List D → Rho → Prop} {Z : It → Hp → Prop} (h : Rel X.K ms σ H r O G) (hh : (f r).on A (Bx X W ms σ H O G))
    (q : ∀ d r' J H' O', A d r' → Rel X.K ms σ H' r' O' G → Ext H O G H' O' G → WalkD X.K J d (msk H' (Ow O' G)) → Z J H') : tI X W ms f σ H Z :=
  ⟨r, O, G, h, hh.mono (fun d r' a v H' O' h1 e1 p => q d r' v H' O' a h1 e1 p) fun _ _ _ b => b⟩
theorem walkD_list {K : PySem.W.Frag} {a : Addr} {xs : List V} {ds : List D} {M : Hp} (h : Rd M a (.lst xs)) (rp : RepAll K M xs ds) : WalkD K (Itl K a) ds M := fun H W sm tr => by
  have q : SqL K H a xs := .inl (DL.Same.rd (sm.trans msk_sub) h)
  refine ⟨fun i d e => ?_, xs, q, by rw [rp.len]; exact Nat.le_refl _⟩
  obtain ⟨v, ev, rv⟩ := rp.get e
  refine ⟨⟨xs, v, q, ev⟩, fun x H' y => ?_⟩
  obtain ⟨e1, y⟩ := y
  subst e1
  have e2 := y xs q
  rw [ev] at e2
  cases e2
  exact ⟨Same.refl _, rv.mono sm⟩
theorem walkD_tup {K : PySem.W.Frag} {a : Addr} {xs : List V} {ds : List D} {M : Hp} (h : SqT K M a xs) (rp : RepAll K M xs ds) : WalkD K (Itt K a) ds M := fun H W sm tr => by
  have q : SqT K H a xs := DL.Same.tup (sm.trans msk_sub) h
  refine ⟨fun i d e => ?_, xs, q, by rw [rp.len]; exact Nat.le_refl _⟩
  obtain ⟨v, ev, rv⟩ := rp.get e
  refine ⟨⟨xs, v, q, ev⟩, fun x H' y => ?_⟩
  obtain ⟨e1, y⟩ := y
  subst e1
  have e2 := y xs q
  rw [ev] at e2
  cases e2
  exact ⟨Same.refl _, rv.mono sm⟩
def sgn (c : Nat) : D := .str ⟨#[c]⟩
theorem walkD_str {K : PySem.W.Frag} {z : Str} {M : Hp} : WalkD K (Its z) (z.cps.toList.map sgn) M := fun H W sm tr => by
  refine ⟨fun i d e => ?_, by rw [List.length_map, Array.length_toList]; exact Nat.le_refl _⟩
  rw [List.getElem?_map, Array.getElem?_toList] at e
  cases q : z.cps[i]? with
  | none => rw [q] at e; cases e
  | some c =>
    rw [q] at e
    cases e
    refine ⟨(Array.getElem?_eq_some_iff.mp q).1, fun x H' y => ?_⟩
    obtain ⟨e1, c', e2, rfl⟩ := y
    subst e1
    rw [q] at e2
    cases e2
    exact ⟨Same.refl _, .str _⟩
def rngD (lo : Int) (n : Nat) : List D := (List.range n).map fun i => .int (lo + (i : Nat))
theorem walkD_rng {K : PySem.W.Frag} {lo : Int} {n : Nat} {M : Hp} : WalkD K (Itr lo n) (rngD lo n) M := fun H W sm tr => by
  unfold rngD
  refine ⟨fun i d e => ?_, by rw [List.length_map, List.length_range]; exact Nat.le_refl _⟩
  rw [List.getElem?_map] at e
  cases q : (List.range n)[i]? with
  | none => rw [q] at e; cases e
  | some j =>
    rw [q] at e
    cases e
    obtain ⟨hi, e2⟩ := List.getElem?_eq_some_iff.mp q
    rw [List.getElem_range] at e2
    subst e2
    rw [List.length_range] at hi
    refine ⟨hi, fun x H' y => ?_⟩
    obtain ⟨e1, rfl⟩ := y
    subst e1
    exact ⟨Same.refl _, .int _⟩
/-- over a pure list -/
def iLst (f : Rho → R D) : Rho → R (List D) := fun r => (f r).bind fun d r1 => match d with
  | .list ds => .ok ds r1
  | _ => .bad
theorem ci_list {f : Rho → R D} (h : CE X W ms e f) : CI X W ms tg e (iLst f) :=
  (pi_list h).weak fun σ H Z ⟨r, O, G, R, h⟩ => by
    unfold iLst at h
    rw [on_bind] at h
    refine tE_step R h fun d r1 v H1 O1 h1 R1 E1 p1 => ?_
    cases d with
    | list ds =>
      obtain ⟨a, xs, rfl, q, rp⟩ := p1.lstI
      exact ⟨a, rfl, ⟨xs, .inl (DL.Same.rd msk_sub q)⟩, h1 _ H1 O1 R1 E1 (walkD_list q rp)⟩
    | _ => exact False.elim h1
def iTup (f : Rho → R D) : Rho → R (List D) := fun r => (f r).bind fun d r1 => match d with
  | .tuple ds => .ok ds r1
  | _ => .bad
theorem ci_tup {f : Rho → R D} (h : CE X W ms e f) : CI X W ms tg e (iTup f) :=
  (pi_tup h).weak fun σ H Z ⟨r, O, G, R, h⟩ => by
    unfold iTup at h
    rw [on_bind] at h
    refine tE_step R h fun d r1 v H1 O1 h1 R1 E1 p1 => ?_
    cases d with
    | tuple ds =>
      obtain ⟨a, xs, rfl, q, rp⟩ := p1.tupI
      exact ⟨a, rfl, ⟨xs, DL.Same.tup msk_sub q⟩, h1 _ H1 O1 R1 E1 (walkD_tup q rp)⟩
    | _ => exact False.elim h1
def iStr (f : Rho → R D) : Rho → R (List D) := fun r => (f r).bind fun d r1 => match d with
  | .str z => .ok (z.cps.toList.map sgn) r1
  | _ => .bad
theorem ci_str {f : Rho → R D} (h : CE X W ms e f) : CI X W ms tg e (iStr f) :=
  (pi_str h).weak fun σ H Z ⟨r, O, G, R, h⟩ => by
    unfold iStr at h
    rw [on_bind] at h
    refine tE_step R h fun d r1 v H1 O1 h1 R1 E1 p1 => ?_
    cases d with
    | str z =>
      refine ⟨z, p1.strI, h1 _ H1 O1 R1 E1 walkD_str⟩
    | _ => exact False.elim h1
/-- range(n); range(a, b) -/
def inR (i : Int) : Bool := decide (-(2 ^ 62) ≤ i) && decide (i < 2 ^ 62)
def iRng1 (as : Rho → R (List Opd)) : Rho → R (List D) := fun r => (as r).bind fun os r1 => match gets r1 os with
  | some [.int j] => if inR j = true then .ok (rngD 0 j.toNat) r1 else .bad
  | _ => .bad
def iRng2 (as : Rho → R (List Opd)) : Rho → R (List D) := fun r => (as r).bind fun os r1 => match gets r1 os with
  | some [.int i, .int j] => if (inR i && inR j) = true then .ok (rngD i (j - i).toNat) r1 else .bad
  | _ => .bad
theorem inR_ok {i : Int} (h : inR i = true) : -(2 ^ 62) ≤ i ∧ i < 2 ^ 62 := by
  unfold inR at h
  obtain ⟨a, b⟩ := Bool.and_eq_true_iff.mp h
  exact ⟨of_decide_eq_true a, of_decide_eq_true b⟩
theorem RepBs.one {K : PySem.W.Frag} {M H : Hp} {vs : List V} {d : D} (h : RepBs K M H vs [d]) : ∃ v, vs = [v] ∧ RepB K M H v d := by
  cases h with
  | cons a b => cases b; exact ⟨_, rfl, a⟩
theorem RepBs.two {K : PySem.W.Frag} {M H : Hp} {vs : List V} {d d2 : D} (h : RepBs K M H vs [d, d2]) : ∃ v w, vs = [v, w] ∧ RepB K M H v d ∧ RepB K M H w d2 := by
  cases h with
  | cons a b => cases b with
    | cons b c => cases c; exact ⟨_, _, rfl, a, b⟩
theorem ci_rng1 {a : Expr} {as : Rho → R (List Opd)} {p pos : Pos} (hm : X.mg "range" = none) (ha : CA X W ms [a] as) (hg : Gl X "range" := by rfl) (hs : starEach [a] X.env = [(false, eval a X.env)] := by rfl) : CI X W ms tg (.Call (.Name "range" p) [a] [] pos) (iRng1 as) :=
  (pi_range1 hg hm ha hs).weak fun σ H Z ⟨r, O, G, R, h⟩ => by
    unfold iRng1 at h
    rw [on_bind] at h
    refine tA_step R h fun os r1 vs H1 O1 h1 R1 E1 p1 => ?_
    split at h1
    · rename_i j e
      split at h1
      · rename_i hz
        obtain ⟨v, rfl, rv⟩ := (p1.gets R1 e).one
        rw [rv.intI]
        exact ⟨j, rfl, (inR_ok hz).1, (inR_ok hz).2, h1 _ H1 O1 R1 E1 walkD_rng⟩
      · exact False.elim h1
    · exact False.elim h1
theorem ci_rng2 {a b : Expr} {as : Rho → R (List Opd)} {p pos : Pos} (hm : X.mg "range" = none) (ha : CA X W ms [a, b] as) (hg : Gl X "range" := by rfl) (hs : starEach [a, b] X.env = [(false, eval a X.env), (false, eval b X.env)] := by rfl)
    (hs2 : starEach [b] X.env = [(false, eval b X.env)] := by rfl) : CI X W ms tg (.Call (.Name "range" p) [a, b] [] pos) (iRng2 as) :=
  (pi_range2 hg hm ha hs hs2).weak fun σ H Z ⟨r, O, G, R, h⟩ => by
    unfold iRng2 at h
    rw [on_bind] at h
    refine tA_step R h fun os r1 vs H1 O1 h1 R1 E1 p1 => ?_
    split at h1
    · rename_i i j e
      split at h1
      · rename_i hz
        obtain ⟨hz1, hz2⟩ := Bool.and_eq_true_iff.mp hz
        obtain ⟨v, w, rfl, rv, rw'⟩ := (p1.gets R1 e).two
        rw [rv.intI, rw'.intI]
        exact ⟨i, j, rfl, ⟨(inR_ok hz1).1, (inR_ok hz1).2, (inR_ok hz2).1, (inR_ok hz2).2⟩, h1 _ H1 O1 R1 E1 walkD_rng⟩
      · exact False.elim h1
    · exact False.elim h1

/-! ## for -/
def forE (k : D → Rho → Option Rho) (g : Rho → SR) : List D → Rho → SR
  | [], r => .nx r
  | d :: ds, r => match k d r with
    | none => .bad
    | some r1 => match g r1 with
      | .nx r2 => forE k g ds r2
      | .ct r2 => forE k g ds r2
      | .bk r2 => .nx r2
      | .rt d r2 => .rt d r2
      | .exc c x r2 => .exc c x r2
      | .bad => .bad
def sFor (f : Rho → R (List D)) (k : D → Rho → Option Rho) (g : Rho → SR) : Rho → SR := fun r => (f r).toS fun ds r1 => forE k g ds r1
theorem drop_cons {α : Type} {l : List α} {i : Nat} (h : i < l.length) : ∃ x, l[i]? = some x ∧ l.drop i = x :: l.drop (i + 1) := ⟨l[i], List.getElem?_eq_getElem h, List.drop_eq_getElem_cons h⟩
theorem cs_for {iter : Expr} {body : List Stmt} {is : List Nat} {f : Rho → R (List D)} {k : D → Rho → Option Rho} {gt : TG} {g : Rho → SR} {pos : Pos} (hp : PassesOwn (model X.prog X.w) X.A X.env X.xe) (hc : X.calm = true) (hi : CI X W ms tg iter f) (hg : CG X ms tg is k gt) (hb : CSs X W ms rs body g)
    (hs : ∀ x, foldedSetIterable iter X.env x = pure x := by intro _; rfl) : CS X W ms rs (.For tg iter body [] pos) (sFor f k g) :=
  (ps_for hp hc hi hg.1 hb hs).lenW fun E σ H hl ⟨r, O, G, R, h⟩ => tI_step R (toS_on h) fun ds r0 J H0 O0 h0 R0 E0 wk => by
    refine ⟨fun i m σ2 H2 => ∃ r2 O2, m = ds.length - i ∧ i ≤ ds.length ∧ Rel X.K ms σ2 H2 r2 O2 G ∧ σ2.length = X.N.length ∧ Ext H0 O0 G H2 O2 G ∧ Fx ms σ σ2 ∧ SOn X W ms rs E σ2 H2 O2 G (forE k g (ds.drop i) r2),
      ⟨ds.length, r0, O0, by simp, Nat.zero_le _, R0, hl, .refl, .refl, by rw [List.drop_zero]; exact h0.mono E0 .refl⟩, ?_⟩
    rintro i m σ2 H2 ⟨r2, O2, rfl, hi, R2, hl2, E2, F2, h2⟩
    obtain ⟨w1, w2⟩ := wk H2 (Ow O2 G) E2.sm R2.trO
    by_cases hlt : i < ds.length
    · obtain ⟨d, ed, edr⟩ := drop_cons hlt
      obtain ⟨go, yl⟩ := w1 i d ed
      refine .inr ⟨go, fun σ' H' => ∃ r' O', Rel X.K ms σ' H' r' O' G ∧ σ'.length = X.N.length ∧ Ext H0 O0 G H' O' G ∧ Fx ms σ σ' ∧ SOn X W ms rs E σ' H' O' G (forE k g (ds.drop (i + 1)) r'), ?_, ?_⟩
      · rintro σ' H' ⟨r', O', a1, a2, a3, a4, a5⟩
        exact ⟨ds.length - (i + 1), by omega, r', O', rfl, by omega, a1, a2, a3, a4, a5⟩
      · intro x H3 y
        obtain ⟨sm3, rp⟩ := yl x H3 y
        have R3 := R2.same sm3
        have E3 : Ext H2 O2 G H3 O2 G := .same sm3 R2.tr
        rw [edr] at h2
        unfold forE at h2
        cases ek : k d r2 with
        | none => rw [ek] at h2; exact False.elim h2
        | some r4 =>
          rw [ek] at h2
          refine hg.2 R3 hl2 rp ek fun σ4 R4 F4 _ => ⟨r4, O2, G, R4, ?_⟩
          have h4 := h2.mono (σ1 := σ4) E3 F4
          simp only at h4
          cases eg : g r4 with
          | nx r5 =>
            rw [eg] at h4
            exact fun σ5 H5 O5 R5 E5 F5 => ⟨r5, O5, R5, F5.len.trans (F4.len.trans hl2), E2.trans (E3.trans E5), F2.trans (F4.trans F5), h4.mono E5 F5⟩
          | ct r5 =>
            rw [eg] at h4
            exact fun σ5 H5 O5 R5 E5 F5 => ⟨r5, O5, R5, F5.len.trans (F4.len.trans hl2), E2.trans (E3.trans E5), F2.trans (F4.trans F5), h4.mono E5 F5⟩
          | bk r5 => rw [eg] at h4; exact h4
          | rt d5 r5 => rw [eg] at h4; exact h4
          | exc c x5 r5 => rw [eg] at h4; exact h4
          | bad => rw [eg] at h4; exact h4
    · have e : i = ds.length := by omega
      subst e
      rw [List.drop_length] at h2
      exact .inl ⟨w2, h2 σ2 H2 O2 R2 .refl .refl⟩
end
end DL
end

section
set_option maxHeartbeats 1000000
namespace DL
open PySem PySem.Spec PyProof.Rows L2

/-! ## while -/
def whileN (t : Rho → R Bool) (g : Rho → SR) : Nat → Rho → SR
  | 0, _ => .bad
  | n + 1, r => (t r).toS fun c r1 => if c = true then (match g r1 with
      | .nx r2 => whileN t g n r2
      | .ct r2 => whileN t g n r2
      | .bk r2 => .nx r2
      | .rt d r2 => .rt d r2
      | .exc c x r2 => .exc c x r2
      | .bad => .bad) else .nx r1
theorem whileN_up {t : Rho → R Bool} {g : Rho → SR} : ∀ {n : Nat} {r : Rho}, whileN t g n r ≠ .bad → whileN t g (n + 1) r = whileN t g n r
  | 0, r, h => absurd rfl h
  | n + 1, r, h => by
    unfold whileN at h ⊢
    cases e : t r with
    | bad => rfl
    | exc c x r' => rfl
    | ok c r1 =>
      rw [e] at h
      simp only [R.toS] at h ⊢
      cases c with
      | false => rfl
      | true =>
        rw [if_pos rfl] at h
        rw [if_pos rfl, if_pos rfl]
        cases e2 : g r1 with
        | nx r2 => rw [e2] at h; exact whileN_up h
        | ct r2 => rw [e2] at h; exact whileN_up h
        | _ => rfl
theorem whileN_le {t : Rho → R Bool} {g : Rho → SR} {n : Nat} {r : Rho} (h : whileN t g n r ≠ .bad) : ∀ m, whileN t g (n + m) r = whileN t g n r
  | 0 => rfl
  | m + 1 => by
    have ih := whileN_le h m
    rw [← Nat.add_assoc, whileN_up (by rw [ih]; exact h), ih]
open Classical in
noncomputable def sWhile (t : Rho → R Bool) (g : Rho → SR) : Rho → SR := fun r => if h : ∃ n, whileN t g n r ≠ .bad then whileN t g (choose h) r else .bad
theorem sWhile_of {t : Rho → R Bool} {g : Rho → SR} {n : Nat} {r : Rho} (h : whileN t g n r ≠ .bad) : sWhile t g r = whileN t g n r := by
  have hh : ∃ n, whileN t g n r ≠ .bad := ⟨n, h⟩
  unfold sWhile
  rw [dif_pos hh]
  have hc := Classical.choose_spec hh
  rcases Nat.le_total n (Classical.choose hh) with q | q
  · obtain ⟨m, e⟩ := Nat.exists_eq_add_of_le q
    rw [e, whileN_le h m]
  · obtain ⟨m, e⟩ := Nat.exists_eq_add_of_le q
    have := whileN_le hc m
    rw [← e] at this
    exact this.symm
/-- one turn -/
theorem sWhile_eq (t : Rho → R Bool) (g : Rho → SR) (r : Rho) : sWhile t g r = (t r).toS fun c r1 => if c = true then (match g r1 with
      | .nx r2 => sWhile t g r2
      | .ct r2 => sWhile t g r2
      | .bk r2 => .nx r2
      | .rt d r2 => .rt d r2
      | .exc c x r2 => .exc c x r2
      | .bad => .bad) else .nx r1 := by
  by_cases hh : ∃ n, whileN t g n r ≠ .bad
  · obtain ⟨n, h⟩ := hh
    rw [sWhile_of h]
    cases n with
    | zero => exact absurd rfl h
    | succ n =>
      unfold whileN at h ⊢
      cases e : t r with
      | bad => rfl
      | exc c x r' => rfl
      | ok c r1 =>
        rw [e] at h
        simp only [R.toS] at h ⊢
        cases c with
        | false => rfl
        | true =>
          rw [if_pos rfl] at h
          rw [if_pos rfl, if_pos rfl]
          cases e2 : g r1 with
          | nx r2 => rw [e2] at h; exact (sWhile_of h).symm
          | ct r2 => rw [e2] at h; exact (sWhile_of h).symm
          | _ => rfl
  · have hb : ∀ n, whileN t g n r = .bad := fun n => Classical.byContradiction fun z => hh ⟨n, z⟩
    have e0 : sWhile t g r = .bad := by unfold sWhile; rw [dif_neg hh]
    rw [e0]
    have h1 := hb 1
    have go : ∀ r1, t r = .ok true r1 → (match g r1 with
      | .nx r2 => sWhile t g r2
      | .ct r2 => sWhile t g r2
      | .bk r2 => .nx r2
      | .rt d r2 => .rt d r2
      | .exc c x r2 => .exc c x r2
      | .bad => SR.bad) = .bad := fun r1 e => by
      have all : ∀ r2, (g r1 = .nx r2 ∨ g r1 = .ct r2) → sWhile t g r2 = .bad := fun r2 e2 => by
        have : ¬ ∃ n, whileN t g n r2 ≠ .bad := fun ⟨n, z⟩ => z (by
          have q := hb (n + 1)
          unfold whileN at q
          rw [e] at q
          simp only [R.toS] at q
          rcases e2 with e2 | e2 <;> (rw [e2] at q; exact q))
        unfold sWhile
        rw [dif_neg this]
      cases e2 : g r1 with
      | nx r2 => exact all r2 (.inl e2)
      | ct r2 => exact all r2 (.inr e2)
      | bad => rfl
      | bk r2 => unfold whileN at h1; rw [e] at h1; simp only [R.toS, if_true] at h1; rw [e2] at h1; cases h1
      | rt d r2 => unfold whileN at h1; rw [e] at h1; simp only [R.toS, if_true] at h1; rw [e2] at h1; cases h1
      | exc c x r2 => unfold whileN at h1; rw [e] at h1; simp only [R.toS, if_true] at h1; rw [e2] at h1; cases h1
    cases e : t r with
    | bad => rfl
    | exc c x r' => unfold whileN at h1; rw [e] at h1; cases h1
    | ok c r1 =>
      cases c with
      | false => unfold whileN at h1; rw [e] at h1; cases h1
      | true => exact (go r1 e).symm
section
variable {X : Cx} {W : WX} {ms : Ms} {rs : Shp} {σ σ1 : L2.St} {H H1 : Hp} {r r1 : Rho} {O O1 : Own} {G : Gh} {E : Ends} {tg e : Expr}
theorem SOn.nbad {s : SR} (h : SOn X W ms rs E σ H O G s) : s ≠ .bad := fun z => by rw [z] at h; exact h
theorem cs_while {c : Expr} {body : List Stmt} {t : Rho → R Bool} {g : Rho → SR} {pos : Pos} (hp : PassesOwn (model X.prog X.w) X.A X.env X.xe) (hc : CT X W ms c t) (hb : CSs X W ms rs body g) : CS X W ms rs (.While c body [] pos) (sWhile t g) :=
  (ps_while hp hc hb).weak fun E σ H ⟨r, O, G, R, h⟩ => by
    have hn := h.nbad
    have ⟨n, hN⟩ : ∃ n, whileN t g n r ≠ .bad := Classical.byContradiction fun z => hn (by unfold sWhile; rw [dif_neg z])
    rw [sWhile_of hN] at h
    refine ⟨fun m σ2 H2 => ∃ r2 O2, Rel X.K ms σ2 H2 r2 O2 G ∧ SOn X W ms rs E σ2 H2 O2 G (whileN t g m r2), ⟨n, r, O, R, h⟩, ?_⟩
    rintro m σ2 H2 ⟨r2, O2, R2, h2⟩
    cases m with
    | zero => exact False.elim h2
    | succ m =>
      unfold whileN at h2
      refine tT_step R2 (toS_on h2) fun b r3 H3 O3 h3 R3 E3 => ?_
      cases b with
      | false => exact h3 σ2 H3 O3 R3 E3 .refl
      | true =>
        rw [if_pos rfl] at h3 ⊢
        refine ⟨fun σ' H' => ∃ r' O', Rel X.K ms σ' H' r' O' G ∧ SOn X W ms rs E σ' H' O' G (whileN t g m r'), fun σ' H' ⟨r', O', a1, a2⟩ => ⟨m, by omega, r', O', a1, a2⟩, r3, O3, G, R3, ?_⟩
        have h4 := h3.mono E3 (.refl (σ := σ2))
        cases eg : g r3 with
        | nx r5 => rw [eg] at h4; exact fun σ5 H5 O5 R5 E5 F5 => ⟨r5, O5, R5, h4.mono E5 F5⟩
        | ct r5 => rw [eg] at h4; exact fun σ5 H5 O5 R5 E5 F5 => ⟨r5, O5, R5, h4.mono E5 F5⟩
        | bk r5 => rw [eg] at h4; exact h4
        | rt d5 r5 => rw [eg] at h4; exact h4
        | exc c x5 r5 => rw [eg] at h4; exact h4
        | bad => rw [eg] at h4; exact h4

/-! ## list comprehensions -/
def wipeR (r : Rho) : List Nat → Rho
  | [] => r
  | v :: vs => (wipeR r vs).set v none
def restR (r0 r : Rho) : List Nat → Rho
  | [] => r
  | v :: vs => (restR r0 r vs).set v ((r0[v]?).join)
def R.noX {α : Type} (r : R α) : R α := match r with
  | .ok a r => .ok a r
  | _ => .bad
theorem noX_on {α : Type} {x : R α} {A : α → Rho → Prop} {B B' : Str → D → Rho → Prop} (h : x.noX.on A B) : x.on A B' := by
  cases x with
  | ok a r => exact h
  | exc c y r => exact False.elim h
  | bad => exact h
def compL (vs : List Nat) (k : D → Rho → Option Rho) (t : Rho → R Bool) (f : Rho → R D) : List D → Rho → List D → R (List D)
  | [], r, acc => .ok acc r
  | d :: ds, r, acc => match k d r with
    | none => .bad
    | some r1 => (t r1).noX.bind fun c r2 => if c = true then (f r2).noX.bind fun y r3 => if acc.length < sizeLine then compL vs k t f ds (wipeR r3 vs) (acc ++ [y]) else .bad else compL vs k t f ds (wipeR r2 vs) acc
def eComp (vs : List Nat) (i : Rho → R (List D)) (k : D → Rho → Option Rho) (t : Rho → R Bool) (f : Rho → R D) : Rho → R D := fun r => (i r).bind fun ds r1 => (compL vs k t f ds (wipeR r1 vs) []).bind fun ys r2 => .ok (.list ys) (restR r1 r2 vs)
def tYesR : Rho → R Bool := fun r => .ok true r
theorem wipeR_len (r : Rho) : ∀ vs, (wipeR r vs).length = r.length
  | [] => rfl
  | v :: vs => by unfold wipeR; rw [List.length_set, wipeR_len r vs]
theorem restR_len (r0 r : Rho) : ∀ vs, (restR r0 r vs).length = r.length
  | [] => rfl
  | v :: vs => by unfold restR; rw [List.length_set, restR_len r0 r vs]
theorem wipeR_out (r : Rho) {i : Nat} : ∀ {vs : List Nat}, i ∉ vs → (wipeR r vs)[i]? = r[i]?
  | [], _ => rfl
  | v :: vs, h => by
    unfold wipeR
    rw [List.getElem?_set_ne (fun z => h (by rw [z]; exact List.mem_cons_self)), wipeR_out r fun z => h (List.mem_cons_of_mem _ z)]
theorem wipeR_in (r : Rho) {i : Nat} {d : D} : ∀ {vs : List Nat}, i ∈ vs → (wipeR r vs)[i]? ≠ some (some d)
  | v :: vs, h => by
    unfold wipeR
    by_cases q : v = i
    · subst q
      rw [List.getElem?_set]
      split
      · split <;> exact fun z => nomatch z
      · rename_i z; exact absurd rfl z
    · rw [List.getElem?_set_ne q]
      exact wipeR_in r ((List.mem_cons.mp h).elim (fun z => absurd z.symm q) id)
theorem restR_out (r0 r : Rho) {i : Nat} : ∀ {vs : List Nat}, i ∉ vs → (restR r0 r vs)[i]? = r[i]?
  | [], _ => rfl
  | v :: vs, h => by
    unfold restR
    rw [List.getElem?_set_ne (fun z => h (by rw [z]; exact List.mem_cons_self)), restR_out r0 r fun z => h (List.mem_cons_of_mem _ z)]
theorem restR_in (r0 r : Rho) (hl : r.length = r0.length) {i : Nat} {d : D} : ∀ {vs : List Nat}, i ∈ vs → (restR r0 r vs)[i]? = some (some d) → r0[i]? = some (some d)
  | v :: vs, h, e => by
    unfold restR at e
    by_cases q : v = i
    · subst q
      rw [List.getElem?_set] at e
      rw [if_pos rfl] at e
      split at e
      · exact join_some (Option.some.inj e)
      · cases e
    · rw [List.getElem?_set_ne q] at e
      exact restR_in r0 r hl ((List.mem_cons.mp h).elim (fun z => absurd z.symm q) id) e
theorem wipe_out2 {σ : L2.St} {i : Nat} : ∀ {vs : List Nat}, i ∉ vs → (wipe σ vs)[i]? = σ[i]?
  | [], _ => rfl
  | v :: vs, h => by
    unfold wipe
    rw [List.getElem?_set_ne (fun z => h (by rw [z]; exact List.mem_cons_self)), wipe_out2 fun z => h (List.mem_cons_of_mem _ z)]
theorem wipe_in2 {σ : L2.St} {i : Nat} : ∀ {vs : List Nat}, i ∈ vs → (wipe σ vs)[i]? = if i < σ.length then some none else none
  | v :: vs, h => by
    unfold wipe
    by_cases q : v = i
    · subst q
      by_cases hv : v < (wipe σ vs).length
      · rw [List.getElem?_set_self hv, if_pos (by rw [← wipe_length σ vs]; exact hv)]
      · rw [List.getElem?_eq_none (by rw [List.length_set]; exact Nat.le_of_not_lt hv), if_neg (by rw [← wipe_length σ vs]; exact hv)]
    · rw [List.getElem?_set_ne q]
      exact wipe_in2 ((List.mem_cons.mp h).elim (fun z => absurd z.symm q) id)
theorem wipe_eq {σ σ' : L2.St} {vs : List Nat} (hl : σ'.length = σ.length) (h : Only1 vs σ σ') : wipe σ' vs = wipe σ vs := by
  apply List.ext_getElem?
  intro i
  by_cases q : i ∈ vs
  · rw [wipe_in2 q, wipe_in2 q, hl]
  · rw [wipe_out2 q, wipe_out2 q]; exact h i q
theorem wipe_wipe {σ : L2.St} {vs : List Nat} : wipe (wipe σ vs) vs = wipe σ vs := wipe_eq (wipe_length σ vs) fun j hj => wipe_out2 hj
theorem Rel.wipe (h : Rel X.K ms σ H r O G) {vs : List Nat} (hv : ∀ i ∈ vs, (ms i).sh = .pur) : Rel X.K ms (L2.wipe σ vs) H (wipeR r vs) O G where
  len := by rw [wipeR_len, wipe_length]; exact h.len
  slot := fun i d e => by
    by_cases q : i ∈ vs
    · exact absurd e (wipeR_in r q)
    · rw [wipeR_out r q] at e
      obtain ⟨v, e1, rs⟩ := h.slot i d e
      exact ⟨v, by rw [wipe_out2 q]; exact e1, rs⟩
  emp := fun i hi => by
    by_cases q : i ∈ vs
    · by_cases z : ∃ d, r[i]? = some (some d)
      · obtain ⟨d, e⟩ := z
        obtain ⟨v, _, rs⟩ := h.slot i d e
        rw [hv i q] at rs
        exact rs.purI.1
      · exact h.emp i fun d e => z ⟨d, e⟩
    · exact h.emp i fun d e => hi d (by rw [wipeR_out r q]; exact e)
  tr := h.tr
  dj := h.dj
  dG := h.dG
/-- back from a block -/
theorem Rel.rest {G' : Gh} {r2 : Rho} (h : Rel X.K ms (L2.wipe σ vs) H1 r2 O1 G') {vs0 : List Nat} (e0 : vs0 = vs) (h0 : Rel X.K ms σ H r O G) (hv : ∀ i ∈ vs, (ms i).sh = .pur) (E1 : Ext H O G H1 O1 G') : Rel X.K ms σ H1 (restR r r2 vs) O1 G' := by
  have hl : r2.length = r.length := by rw [h.len, wipe_length, h0.len]
  refine ⟨by rw [restR_len, hl]; exact h0.len, fun i d e => ?_, fun i hi => ?_, h.tr, h.dj, h.dG⟩
  · by_cases q : i ∈ vs
    · have e2 := restR_in r r2 hl q e
      obtain ⟨v, e1, rs⟩ := h0.slot i d e2
      rw [hv i q] at rs ⊢
      have hO : O1 i = [] := by
        by_cases z : ∃ d, r2[i]? = some (some d)
        · obtain ⟨d, e⟩ := z
          obtain ⟨v, _, rs⟩ := h.slot i d e
          rw [hv i q] at rs
          exact rs.purI.1
        · exact h.emp i fun d e => z ⟨d, e⟩
      rw [hO]
      exact ⟨v, e1, .pur (rs.purI.2.mono E1.sm)⟩
    · rw [restR_out r r2 q] at e
      obtain ⟨v, e1, rs⟩ := h.slot i d e
      rw [wipe_out2 q] at e1
      exact ⟨v, e1, rs⟩
  · by_cases q : i ∈ vs
    · by_cases z : ∃ d, r2[i]? = some (some d)
      · obtain ⟨d, e⟩ := z
        obtain ⟨v, _, rs⟩ := h.slot i d e
        rw [hv i q] at rs
        exact rs.purI.1
      · exact h.emp i fun d e => z ⟨d, e⟩
    · exact h.emp i fun d e => hi d (by rw [restR_out r r2 q]; exact e)
abbrev W0 : WX := fun _ _ _ _ => False
theorem lc_read {X2 : Cx} (eK : X2.K = X.K) (eN : X2.N = X.N) {i : Rho → R (List D)} {is vs : List Nat} {k : D → Rho → Option Rho} {gt : TG} {t : Rho → R Bool} {f : Rho → R D} (hvs : ∀ i ∈ vs, (ms i).sh = .pur) (his : ∀ i ∈ is, i ∈ vs) (hg : CG X2 ms tg is k gt)
    {Q : VK} (hl : σ.length = X.N.length) (h : tEo X W ms .lst (eComp vs i k t f) σ H Q) : tLc (tI X W ms i) gt (tT X2 W0 ms t) (tE X2 W0 ms f) vs σ H Q := by
  obtain ⟨r, O, G, R, h⟩ := h
  unfold eComp at h
  rw [on_bind] at h
  refine tI_step R h fun ds r1 J H1 O1 h1 R1 E1 wk D hD => ?_
  obtain ⟨Rg, Eg⟩ := R1.guard (o := .lst []) hD
  have Rw : Rel X.K ms (wipe σ vs) (upd H1 D (.lst [])) (wipeR r1 vs) O1 (GA [D] G) := Rg.wipe hvs
  rw [on_bind] at h1
  refine ⟨fun n m H2 => ∃ r2 O2 acc ys, m = ds.length - n ∧ n ≤ ds.length ∧ Rel X.K ms (wipe σ vs) H2 r2 O2 (GA [D] G) ∧ Ext H1 O1 G H2 O2 (GA [D] G) ∧ H2 D = some (.lst acc) ∧ RepAll X.K (msk H2 (Ow O2 (GA [D] G))) acc ys ∧
      (compL vs k t f (ds.drop n) r2 ys).on (fun a r' => ∀ v H' O' A, Rel X.K ms σ H' (restR r1 r' vs) O' (GA A G) → Ext H O G H' O' (GA A G) → (∀ a_2 ∈ A, ¬G a_2) → RepS X.K (msk H' (Ow O' (GA A G))) H' Shp.lst v (PyData.list a) A → Q v H') (fun _ _ _ => True),
    ⟨ds.length, wipeR r1 vs, O1, [], [], by simp, Nat.zero_le _, Rw, Eg, upd_same, .nil, by rw [List.drop_zero]; exact h1.mono (fun _ _ z => z) fun _ _ _ _ => trivial⟩, ?_⟩
  rintro n m H2 ⟨r2, O2, acc, ys, rfl, hn, R2, E2, hacc, racc, h2⟩
  have sm2 : Same (msk H1 (Ow O1 G)) (msk H2 (Ow O2 (GA [D] G))) := E2.sm
  obtain ⟨w1, w2⟩ := wk H2 (Ow O2 (GA [D] G)) sm2 R2.trO
  by_cases hlt : n < ds.length
  · obtain ⟨d, ed, edr⟩ := drop_cons hlt
    obtain ⟨go, yl⟩ := w1 n d ed
    refine .inr ⟨go, fun H' => ∃ r' O' acc' ys', Rel X.K ms (wipe σ vs) H' r' O' (GA [D] G) ∧ Ext H1 O1 G H' O' (GA [D] G) ∧ H' D = some (.lst acc') ∧ RepAll X.K (msk H' (Ow O' (GA [D] G))) acc' ys' ∧
      (compL vs k t f (ds.drop (n + 1)) r' ys').on (fun a r' => ∀ v H' O' A, Rel X.K ms σ H' (restR r1 r' vs) O' (GA A G) → Ext H O G H' O' (GA A G) → (∀ a_2 ∈ A, ¬G a_2) → RepS X.K (msk H' (Ow O' (GA A G))) H' Shp.lst v (PyData.list a) A → Q v H') (fun _ _ _ => True),
      fun H' ⟨r', O', acc', ys', a1, a2, a3, a4, a5⟩ => ⟨ds.length - (n + 1), by omega, r', O', acc', ys', rfl, by omega, a1, a2, a3, a4, a5⟩, fun x H3 y => ?_⟩
    obtain ⟨sm3, rp⟩ := yl x H3 y
    have R3 := R2.same sm3
    have E3 : Ext H2 O2 (GA [D] G) H3 O2 (GA [D] G) := .same sm3 R2.tr
    rw [edr] at h2
    unfold compL at h2
    cases ek : k d r2 with
    | none => rw [ek] at h2; exact False.elim h2
    | some r4 =>
      rw [ek] at h2
      have hlw : (wipe σ vs).length = X2.N.length := by rw [wipe_length, eN]; exact hl
      refine hg.2 (σ := wipe σ vs) (H := H3) (r := r2) (O := O2) (G := GA [D] G) (by rw [eK]; exact R3) hlw (by rw [eK]; exact rp) ek fun σ4 R4 F4 o4 => ?_
      have hw4 : wipe σ4 vs = wipe σ vs := (wipe_eq F4.len fun j hj => o4 j fun z => hj (his j z)).trans wipe_wipe
      refine ⟨hw4, ?_⟩
      simp only at h2
      rw [on_bind] at h2
      refine tT_step R4 (noX_on h2) fun b r5 H5 O5 h5 R5 E5 => ?_
      have hD5 : H5 D = some (.lst acc) := by
        rw [(E5.gh D (.inl List.mem_cons_self)).2]
        exact sm3 D _ hacc
      cases b with
      | false =>
        rw [if_neg (by decide)] at h5 ⊢
        have Rz := R5.wipe hvs
        rw [hw4, eK] at Rz
        exact ⟨_, O5, acc, ys, Rz, E2.trans (E3.trans E5), hD5, racc.mono (E3.sm.trans E5.sm), h5⟩
      | true =>
        rw [if_pos rfl] at h5 ⊢
        rw [on_bind] at h5
        refine tE_step R5 (noX_on h5) fun yd r6 yv H6 O6 h6 R6 E6 p6 => ?_
        have hD6 : H6 D = some (.lst acc) := by
          rw [(E6.gh D (.inl List.mem_cons_self)).2]
          exact hD5
        have racc6 := racc.mono (E3.sm.trans (E5.sm.trans E6.sm))
        split at h6
        · rename_i hz
          rw [← racc.len] at hz
          refine ⟨acc, hD6, hz, ?_⟩
          have hWD : Ow O6 (GA [D] G) D := .inl (.inl List.mem_cons_self)
          have me : msk (upd H6 D (.lst (acc ++ [yv]))) (Ow O6 (GA [D] G)) = msk H6 (Ow O6 (GA [D] G)) := by
            funext b
            by_cases q : Ow O6 (GA [D] G) b
            · rw [msk_in q, msk_in q]
            · rw [msk_out q, msk_out q, upd_ne (fun z => q (by rw [z]; exact hWD))]
          have Rz := R6.wipe hvs
          rw [hw4, eK] at Rz
          have nD : ∀ i, D ∉ O6 i := fun i z => R6.dG i D z (.inl List.mem_cons_self)
          have Ru : Rel X.K ms (wipe σ vs) (upd H6 D (.lst (acc ++ [yv]))) (wipeR r6 vs) O6 (GA [D] G) := by
            refine ⟨Rz.len, fun i d e => ?_, Rz.emp, fun b g => ?_, Rz.dj, Rz.dG⟩
            · obtain ⟨v, e1, rs⟩ := Rz.slot i d e
              rw [me]
              refine ⟨v, e1, rs.mono (Same.refl _) fun b hb o z => ?_⟩
              rw [upd_ne (fun z2 => nD i (by rw [← z2]; exact hb))]
              exact z
            · by_cases q : b = D
              · rw [q, upd_same]; exact fun z => nomatch z
              · rw [upd_ne q]; exact Rz.tr b g
          refine ⟨_, O6, acc ++ [yv], ys ++ [yd], Ru, ?_, upd_same, ?_, h6⟩
          · have E26 := E2.trans (E3.trans (E5.trans E6))
            refine ⟨by rw [me]; exact E26.sm, fun b g => ⟨.inr g, ?_⟩⟩
            rw [upd_ne (fun z => R1.tr b g (by rw [z]; exact hD))]
            exact (E26.gh b g).2
          · rw [me]
            rw [eK] at p6
            exact racc6.append (.cons p6 .nil)
        · exact False.elim h6
  · have e : n = ds.length := by omega
    subst e
    rw [List.drop_length] at h2
    refine .inl ⟨w2, ?_⟩
    have E12 : Ext H O G H2 O2 (GA [D] G) := E1.trans E2
    exact h2 (.ref D) H2 O2 [D] (Rel.rest R2 rfl R1 hvs E2) E12 (fun a ha g => R1.tr a g (by rw [List.mem_singleton.mp ha]; exact hD)) (.lst hacc racc)
theorem _root_.L2.PTs.weak {es : List Expr} {t t' : TT} (h : PTs X es t) (w : ∀ σ H Q, t' σ H Q → t σ H Q) : PTs X es t' := ⟨fun pins s σ H Q I q => h.run pins s σ H Q I (w σ H Q q)⟩
theorem cts_nil : PTs X [] (tT X W ms tYesR) := pts_nil.weak fun σ H Q ⟨r, O, G, R, h⟩ => h H O R .refl
theorem cts_one {c : Expr} {t : Rho → R Bool} (h : CT X W ms c t) : PTs X [c] (tT X W ms t) := pts_one h
theorem ceo_lc {elt iter : Expr} {ifs : List Expr} {scope : Scope} {own : List (Str × Nat)} {pos : Pos} {i : Rho → R (List D)} {is vs : List Nat} {k : D → Rho → Option Rho} {gt : TG} {t : Rho → R Bool} {f : Rho → R D} (hc : X.calm = true) (hN : X.N.Nodup) (hi : CI X W ms tg iter i) (ok : BlkOk X.N X.env.scope scope own)
    (hg : ∀ (s : Shared) (H : Hp) (C : Addr) (cl : List (Str × Addr)) (fp : List Addr), CG (X.blk s H scope (compEnvC scope cl C X.env) fp) ms tg is k gt)
    (ht : ∀ (s : Shared) (H : Hp) (C : Addr) (cl : List (Str × Addr)) (fp : List Addr), PTs (X.blk s H scope (compEnvC scope cl C X.env) fp) ifs (tT (X.blk s H scope (compEnvC scope cl C X.env) fp) W0 ms t))
    (he : ∀ (s : Shared) (H : Hp) (C : Addr) (cl : List (Str × Addr)) (fp : List Addr), CE (X.blk s H scope (compEnvC scope cl C X.env) fp) W0 ms elt f)
    (hv : own.map (·.2) = vs := by rfl) (hvs : ∀ i ∈ vs, (ms i).sh = .pur := by decide) (his : ∀ i ∈ is, i ∈ vs := by decide) (hs : ∀ x, foldedSetIterable iter X.env x = pure x := by intro _; rfl) :
    CEo X W ms .lst (.ListComp elt [⟨tg, iter, ifs, 0⟩] scope pos) (eComp vs i k t f) := by
  subst hv
  refine ⟨fun pins s σ H Q I h => ?_⟩
  exact (pe_lc (wi := tI X W ms i) (g := gt) (tt := tT X W0 ms t) (te := tE X W0 ms f) hc hN hi ok (fun s H C cl fp => (hg s H C cl fp).1) ht he hs).run pins s σ H Q I
    (lc_read (X := X) (X2 := X.blk s H scope (compEnvC scope [] 0 X.env) []) rfl rfl hvs his (hg s H 0 [] []) I.len h)
/-- name = [..] on one line, the name a local one -/
theorem cs_setLc (j : Nat) {y : Str} {py : Pos} {elt iter : Expr} {ifs : List Expr} {scope : Scope} {own : List (Str × Nat)} {pos spos : Pos} {i : Rho → R (List D)} {is vs : List Nat} {k : D → Rho → Option Rho} {gt : TG} {t : Rho → R Bool} {f : Rho → R D} (hc : X.calm = true) (hN : X.N.Nodup) (hi : CI X W ms tg iter i) (ok : BlkOk X.N X.env.scope scope own)
    (hg : ∀ (s : Shared) (H : Hp) (C : Addr) (cl : List (Str × Addr)) (fp : List Addr), CG (X.blk s H scope (compEnvC scope cl C X.env) fp) ms tg is k gt)
    (ht : ∀ (s : Shared) (H : Hp) (C : Addr) (cl : List (Str × Addr)) (fp : List Addr), PTs (X.blk s H scope (compEnvC scope cl C X.env) fp) ifs (tT (X.blk s H scope (compEnvC scope cl C X.env) fp) W0 ms t))
    (he : ∀ (s : Shared) (H : Hp) (C : Addr) (cl : List (Str × Addr)) (fp : List Addr), CE (X.blk s H scope (compEnvC scope cl C X.env) fp) W0 ms elt f)
    (hy : X.N[j]? = some y := by rfl) (hyl : X.env.scope.names.lookup y = some .local := by rfl) (hf : (ms j).fx = false := by rfl)
    (hsw : swapsWith (.ListComp elt [⟨tg, iter, ifs, 0⟩] scope pos) (some (.Name y py)) spos.line X.env = pure true := by exact sw_true rfl rfl rfl (by decide +kernel))
    (hv : own.map (·.2) = vs := by rfl) (hvs : ∀ i ∈ vs, (ms i).sh = .pur := by decide) (his : ∀ i ∈ is, i ∈ vs := by decide) (hs : ∀ x, foldedSetIterable iter X.env x = pure x := by intro _; rfl)
    (hsh : (ms j).sh = .lst := by rfl) : CS X W ms rs (.Assign [.Name y py] (.ListComp elt [⟨tg, iter, ifs, 0⟩] scope pos) spos) (sSet j (eComp vs i k t f)) := by
  subst hv
  refine ⟨fun pins s σ H E I h => ?_⟩
  refine (ps_setLc (i := j) (wi := tI X W ms i) (g := gt) (tt := tT X W0 ms t) (te := tE X W0 ms f) hc hN hy hyl hsw hi ok (fun s H C cl fp => (hg s H C cl fp).1) ht he hs).run pins s σ H E I
    (lc_read (X := X) (W := W) (X2 := X.blk s H scope (compEnvC scope [] 0 X.env) []) rfl rfl hvs his (hg s H 0 [] []) I.len ?_)
  obtain ⟨r, O, G, R, h⟩ := h
  refine tEo_step R (toS_on h) fun d r' v H' O' A q R' e' n rp => ?_
  exact q (σ.set j (some v)) H' (updO O' j A) (R'.setOwn n (loc_lt R' I.len hy) (by rw [hsh]; exact rp)) ⟨e'.sm.trans (msk_less fun a z => ow_ga z), fun a g => ⟨g, (e'.gh a g).2⟩⟩ (fx_set hf)
/-- .. into a pure slot -/
theorem cs_setLcP (j : Nat) {y : Str} {py : Pos} {elt iter : Expr} {ifs : List Expr} {scope : Scope} {own : List (Str × Nat)} {pos spos : Pos} {i : Rho → R (List D)} {is vs : List Nat} {k : D → Rho → Option Rho} {gt : TG} {t : Rho → R Bool} {f : Rho → R D} (hc : X.calm = true) (hN : X.N.Nodup) (hi : CI X W ms tg iter i) (ok : BlkOk X.N X.env.scope scope own)
    (hg : ∀ (s : Shared) (H : Hp) (C : Addr) (cl : List (Str × Addr)) (fp : List Addr), CG (X.blk s H scope (compEnvC scope cl C X.env) fp) ms tg is k gt)
    (ht : ∀ (s : Shared) (H : Hp) (C : Addr) (cl : List (Str × Addr)) (fp : List Addr), PTs (X.blk s H scope (compEnvC scope cl C X.env) fp) ifs (tT (X.blk s H scope (compEnvC scope cl C X.env) fp) W0 ms t))
    (he : ∀ (s : Shared) (H : Hp) (C : Addr) (cl : List (Str × Addr)) (fp : List Addr), CE (X.blk s H scope (compEnvC scope cl C X.env) fp) W0 ms elt f)
    (hy : X.N[j]? = some y := by rfl) (hyl : X.env.scope.names.lookup y = some .local := by rfl) (hf : (ms j).fx = false := by rfl)
    (hsw : swapsWith (.ListComp elt [⟨tg, iter, ifs, 0⟩] scope pos) (some (.Name y py)) spos.line X.env = pure true := by exact sw_true rfl rfl rfl (by decide +kernel))
    (hv : own.map (·.2) = vs := by rfl) (hvs : ∀ i ∈ vs, (ms i).sh = .pur := by decide) (his : ∀ i ∈ is, i ∈ vs := by decide) (hs : ∀ x, foldedSetIterable iter X.env x = pure x := by intro _; rfl)
    (hsh : (ms j).sh = .pur := by rfl) : CS X W ms rs (.Assign [.Name y py] (.ListComp elt [⟨tg, iter, ifs, 0⟩] scope pos) spos) (sSet j (eComp vs i k t f)) := by
  subst hv
  refine ⟨fun pins s σ H E I h => ?_⟩
  refine (ps_setLc (i := j) (wi := tI X W ms i) (g := gt) (tt := tT X W0 ms t) (te := tE X W0 ms f) hc hN hy hyl hsw hi ok (fun s H C cl fp => (hg s H C cl fp).1) ht he hs).run pins s σ H E I
    (lc_read (X := X) (W := W) (X2 := X.blk s H scope (compEnvC scope [] 0 X.env) []) rfl rfl hvs his (hg s H 0 [] []) I.len ?_)
  obtain ⟨r, O, G, R, h⟩ := h
  refine tEo_step R (toS_on h) fun d r' v H' O' A q R' e' n rp => ?_
  have R2 := R'.free
  exact q (σ.set j (some v)) H' O' (R2.set hsh (loc_lt R2 I.len hy) (rep_free R' n rfl rp)) (ext_free e') (fx_set hf)
end
end DL
end

section
set_option maxHeartbeats 1000000
namespace DL
open PySem PySem.Spec PyProof.Rows L2

/-! ## defs -/
/-- what a def computes: the arguments in; the answer, and what the changed arguments are then -/
abbrev FS := List D → R D
def ExcM (mg : Str → Option Value) (H : Hp) (c : Str) (x : D) (cv : Value) (dx : Option Addr) : Prop :=
  mg c = some cv ∧ ((x = .none ∧ dx = none) ∨ ∃ (d : Addr) (f : Str) (i : Int), x = .tuple [.str f, .int i] ∧ dx = some d ∧ H d = some (.xd [(f, .int i)]))
def spF (K : PySem.W.Frag) (mg : Str → Option Value) (pm : Ms) (rs : Shp) (n : Nat) (F : FS) : Sp := fun vs H Q E => ∃ (ds : List D) (O : Own) (G : Gh), vs.length = n ∧ ds.length = n ∧ Rel K pm (vs.map some) H (ds.map some) O G ∧
  (F ds).on (fun d ro => ∀ v H' O' A, Rel K pm (vs.map some) H' ro O' (GA A G) → Ext H O G H' O' (GA A G) → (∀ a ∈ A, ¬ G a) → RepS K (msk H' (Ow O' (GA A G))) H' rs v d A → Q v H')
    (fun c x ro => ∀ cv dx H' O', Rel K pm (vs.map some) H' ro O' G → Ext H O G H' O' G → ExcM mg H' c x cv dx → E cv dx H')
structure FnG (P : Program) (w : World) (K : PySem.W.Frag) (mg : Str → Option Value) (base : Heap) (k : Nat) (f : Addr) (fd : FuncData) (ps : List Str) (sp : Sp) : Prop where
  len : ∀ vs H Q E, sp vs H Q E → vs.length = ps.length
  run : ∀ (A : Around) (outer : List Env) (s : Shared) (H : Hp) (args : Args) (us : List Value) (vs : List V) (Q : VK) (E : XK), Room k A → A.guards = some [] → Env0 P w K mg base A outer s H → BindsTo s fd args (ps.zip us) → Vals vs us → sp vs H Q E →
    codeAny (model P w) A (.call (.ref f) args) (CR (L2.CX P w) outer P w H s Q E) s
theorem FnG.mono {P : Program} {w : World} {K : PySem.W.Frag} {mg : Str → Option Value} {base : Heap} {j k : Nat} {f : Addr} {fd : FuncData} {ps : List Str} {sp : Sp} (F : FnG P w K mg base j f fd ps sp) (h : j ≤ k) : FnG P w K mg base k f fd ps sp :=
  ⟨F.len, fun A outer s H args us vs Q E hr => F.run A outer s H args us vs Q E (hr.mono h)⟩
theorem fnG_of {P : Program} {w : World} {K : PySem.W.Frag} {mg : Str → Option Value} {base : Heap} {k : Nat} {f : Addr} {name qual : Str} {params : Arguments} {body : List Stmt} {scope : Scope} {dV kV doc pm cdv ct oc : Value} {an od : Option Addr}
    {osl : Array (Option Value)} {N ps : List Str} {sp : Sp} (lk : K.lookup f = some ⟨oc, od, .func (PySem.W.fnOf name qual params body scope dV kV doc pm an cdv ct), osl⟩) (hcd : PySem.W.codeIn K cdv qual = true) (S : FnScope N ps scope)
    (len : ∀ vs H Q E, sp vs H Q E → vs.length = ps.length)
    (hbody : ∀ (A : Around) (outer : List Env) (s : Shared) (H : Hp) (vs : List V) (Q : VK) (E : XK), Room k (A.deeper (envOfC qual scope s.heap.objs.size f cdv)) → (A.deeper (envOfC qual scope s.heap.objs.size f cdv)).guards = some [] → sp vs H Q E →
      ∃ t, PSs (cxOf (L2.CX P w) P w K mg base N qual scope f cdv A outer s H E) body t ∧ t { nx := fun _ H' => Q .non H', rt := Q } (start N vs) H) :
    FnG P w K mg base (k + 1) f (PySem.W.fnOf name qual params body scope dV kV doc pm an cdv ct) ps sp := by
  refine ⟨len, fun A outer s H args us vs Q E hr hgd e0 hb r hsp => ?_⟩
  have hl := len _ _ _ _ hsp
  have KX : K.In s.heap := e0.mod.kin.keeps fun b o e => (e0.bs b o e).1
  have lim : s.heap.NoLimit := e0.mod.nolimit.keeps fun b o e => (e0.bs b o e).1
  have hkind : ∀ y ∈ ps.zip us, scope.names.lookup y.1 = some .local ∨ (scope.names.lookup y.1 = some .cell ∧ ((cellsFrom (s.heap.objs.size + 1) scope.names []).lookup y.1).isSome = true) := fun ⟨n, v⟩ hy => by
    rcases S.par n (List.of_mem_zip hy).1 with q | q
    · exact .inl q
    · exact .inr ⟨q, PySem.W.cellsFrom_some _ _ _ (.inl q)⟩
  refine codeAny_call_function hr.depth (KX _ _ lk) rfl S.co S.gen rfl (PySem.W.codeRec_of KX hcd) (hb _ _ _ _ ?_)
  refine wpAny_newFunctionEnv_cells S.kind hkind fun env he s1 x => ?_
  subst he
  refine ⟨lim.keeps x.toInCall.keep, codeAny_func ?_⟩
  obtain ⟨t, ht, hq⟩ := hbody A outer s H vs Q E (hr.deeper _) hgd hsp
  have I : Inv (cxOf (L2.CX P w) P w K mg base N qual scope f cdv A outer s H E) [] (start N vs) H s1 := inv_start S hr.hd e0 hl r x
  refine wpAny_mono (ht.run [] s1 (start N vs) H _ I hq) (fun fl s' hs => ?_) fun e s' hs => hs
  have fin : ∀ {σ' : L2.St} {H' : Hp} {v : V} {u : Value}, Inv (cxOf (L2.CX P w) P w K mg base N qual scope f cdv A outer s H E) [] σ' H' s' → RelV v u → Q v H' → L2.CE outer P w H s Q u s' :=
    fun {σ' H' v u} J rv q => ⟨v, H', J.os, J.bare, J.base, J.hok, rv, q⟩
  cases fl with
  | ret u =>
    obtain ⟨v, σ', H', J, rv, q⟩ := hs
    exact fin J rv q
  | next =>
    obtain ⟨σ', H', J, q⟩ := hs
    exact fin (v := V.non) (u := Value.none) J rfl q
  | brk =>
    obtain ⟨_, _, _, q⟩ := hs
    exact False.elim q
  | cont =>
    obtain ⟨_, _, _, q⟩ := hs
    exact False.elim q

/-! ### from a body to what it computes -/
def msOf (l : List Md) : Ms := fun i => l.getD i {}
/-- the changed arguments alone -/
def outsR (pm : Ms) (n : Nat) (r : Rho) : Rho := (List.range n).map fun i => if (pm i).fx = true then (r[i]?).join else none
def bodyF (pm : Ms) (n m : Nat) (g : Rho → SR) : FS := fun ds => match g (ds.map some ++ List.replicate m none) with
  | .rt d r => .ok d (outsR pm n r)
  | .nx r => .ok .none (outsR pm n r)
  | .exc c x r => .exc c x (outsR pm n r)
  | _ => .bad
section
variable {K : PySem.W.Frag} {ms : Ms} {σ : L2.St} {H H' : Hp} {r : Rho} {O O' : Own} {G : Gh}
theorem outsR_at {pm : Ms} {n : Nat} {r : Rho} {i : Nat} {d : D} (h : (outsR pm n r)[i]? = some (some d)) : i < n ∧ (pm i).fx = true ∧ r[i]? = some (some d) := by
  unfold outsR at h
  rw [List.getElem?_map] at h
  cases q : (List.range n)[i]? with
  | none => rw [q] at h; cases h
  | some j =>
    rw [q] at h
    obtain ⟨hi, e2⟩ := List.getElem?_eq_some_iff.mp q
    rw [List.getElem_range] at e2
    rw [List.length_range] at hi
    subst e2
    have h2 : (if (pm i).fx = true then (r[i]?).join else none) = some d := Option.some.inj h
    split at h2
    · rename_i hf; exact ⟨hi, hf, join_some h2⟩
    · cases h2
theorem outsR_in {pm : Ms} {n : Nat} {r : Rho} {i : Nat} {d : D} (hi : i < n) (hf : (pm i).fx = true) (h : r[i]? = some (some d)) : (outsR pm n r)[i]? = some (some d) := by
  unfold outsR
  rw [List.getElem?_map, List.getElem?_range hi]
  show some (if (pm i).fx = true then (r[i]?).join else none) = _
  rw [if_pos hf, h]
  rfl
theorem start_get {N : List Str} {vs : List V} {i : Nat} (hi : i < vs.length) : (start N vs)[i]? = (vs.map some)[i]? := by
  unfold L2.start
  rw [List.getElem?_append_left (by rw [List.length_map]; exact hi)]
theorem Rel.start {pm : Ms} {N : List Str} {vs : List V} {ds : List D} {m : Nat} (h : Rel K pm (vs.map some) H (ds.map some) O G) (hm : ∀ i, i < vs.length → ms i = pm i) (hN : N.length - vs.length = m) : Rel K ms (L2.start N vs) H (ds.map some ++ List.replicate m none) O G := by
  have hl : ds.length = vs.length := by have := h.len; rw [List.length_map, List.length_map] at this; exact this
  have low : ∀ {i : Nat} {d : D}, (ds.map some ++ List.replicate m none)[i]? = some (some d) → i < ds.length ∧ (ds.map some)[i]? = some (some d) := fun {i d} e => by
    by_cases hi : i < ds.length
    · rw [List.getElem?_append_left (by rw [List.length_map]; exact hi)] at e
      exact ⟨hi, e⟩
    · rw [List.getElem?_append_right (by rw [List.length_map]; omega), List.getElem?_replicate] at e
      split at e <;> cases e
  refine ⟨?_, fun i d e => ?_, fun i hi => ?_, h.tr, h.dj, h.dG⟩
  · unfold L2.start
    rw [List.length_append, List.length_append, List.length_map, List.length_map, List.length_replicate, List.length_replicate, hl, hN]
  · obtain ⟨hi, e2⟩ := low e
    obtain ⟨v, e1, rs⟩ := h.slot i d e2
    refine ⟨v, by rw [start_get (by omega)]; exact e1, ?_⟩
    rw [hm i (by omega)]
    exact rs
  · refine h.emp i fun d e => hi d ?_
    have hlt : i < ds.length := by
      have := (List.getElem?_eq_some_iff.mp e).1
      rw [List.length_map] at this
      exact this
    rw [List.getElem?_append_left (by rw [List.length_map]; exact hlt)]
    exact e
/-- only the changed arguments are kept -/
theorem Rel.outs {pm : Ms} {N : List Str} {vs : List V} {n : Nat} {σ' : L2.St} {A : List Addr} (h : Rel K ms σ' H' r O' (GA A G)) (hn : vs.length = n) (hm : ∀ i, i < n → ms i = pm i) (f : Fx ms (L2.start N vs) σ') :
    ∃ O2, Rel K pm (vs.map some) H' (outsR pm n r) O2 (GA A G) ∧ ∀ a, Ow O2 (GA A G) a → Ow O' (GA A G) a := by
  have sub : ∀ a, Ow (fun i => if i < n ∧ (pm i).fx = true then O' i else []) (GA A G) a → Ow O' (GA A G) a := fun a z => by
    rcases z with g | ⟨i, hi⟩
    · exact .inl g
    · have hi : a ∈ (if i < n ∧ (pm i).fx = true then O' i else []) := hi
      split at hi
      · exact .inr ⟨i, hi⟩
      · cases hi
  refine ⟨fun i => if i < n ∧ (pm i).fx = true then O' i else [], ⟨?_, fun i d e => ?_, fun i hi => ?_, h.tr, fun i j a hi hj => ?_, fun i a hi => ?_⟩, sub⟩
  · unfold outsR
    rw [List.length_map, List.length_range, List.length_map, hn]
  · obtain ⟨hi, hf, e2⟩ := outsR_at e
    obtain ⟨v, e1, rs⟩ := h.slot i d e2
    have hf' : (ms i).fx = true := by rw [hm i hi]; exact hf
    rw [f.at_ i hf', start_get (by omega)] at e1
    refine ⟨v, e1, ?_⟩
    simp only [hi, hf, and_self, if_true]
    rw [← hm i hi]
    exact rs.mono (msk_less sub) fun _ _ _ z => z
  · by_cases q : i < n ∧ (pm i).fx = true
    · simp only [q, and_self, if_true]
      exact h.emp i fun d e => hi d (outsR_in q.1 q.2 e)
    · simp only [q, if_false]
  · have hi : a ∈ (if i < n ∧ (pm i).fx = true then O' i else []) := hi
    have hj : a ∈ (if j < n ∧ (pm j).fx = true then O' j else []) := hj
    split at hi
    · split at hj
      · exact h.dj i j a hi hj
      · cases hj
    · cases hi
  · have hi : a ∈ (if i < n ∧ (pm i).fx = true then O' i else []) := hi
    split at hi
    · exact h.dG i a hi
    · cases hi
end
/-- A def keeps its promise, by its body -/
theorem fnG_body {P : Program} {w : World} {K : PySem.W.Frag} {mg : Str → Option Value} {base : Heap} {k : Nat} {f : Addr} {fd : FuncData} {x qual : Str} {params : Arguments} {body : List Stmt} {scope : Scope} {dvs : List V} {kws : List (Str × V)}
    {N ps : List Str} {pm ms : Ms} {rs : Shp} {n m : Nat} {g : Rho → SR} (FD : FunD K x qual params body scope dvs kws f fd) (S : FnScope N ps scope) (hn : ps.length = n) (hm : N.length - n = m) (hms : ∀ i, i < n → ms i = pm i) (hrn : rs = .pur ∨ ∀ (ds : List D) (r : Rho), g (ds.map some ++ List.replicate m none) ≠ .nx r)
    (hb : ∀ (cdv : Value) (A : Around) (outer : List Env) (s : Shared) (H : Hp) (E : XK), Room k (A.deeper (envOfC qual scope s.heap.objs.size f cdv)) → (A.deeper (envOfC qual scope s.heap.objs.size f cdv)).guards = some [] →
      Takes (cxOf (L2.CX P w) P w K mg base N qual scope f cdv A outer s H E) (fun cls d _ H' => E cls d H') → CSs (cxOf (L2.CX P w) P w K mg base N qual scope f cdv A outer s H E) (fun cls d _ H' => E cls d H') ms rs body g) :
    FnG P w K mg base (k + 1) f fd ps (spF K mg pm rs n (bodyF pm n m g)) := by
  obtain ⟨oc, od, dV, kV, doc, pmv, an, cdv, ct, osl, rfl, lk, hcd, _, _⟩ := FD.ex
  refine fnG_of lk hcd S (fun vs H Q E ⟨ds, O, G, h1, _⟩ => h1.trans hn.symm) fun A outer s H vs Q E hr hgd ⟨ds, O, G, hv, hd, R, h⟩ => ?_
  refine ⟨_, hb cdv A outer s H E hr hgd (takes_of rfl rfl rfl rfl), ds.map some ++ List.replicate m none, O, G, R.start (ms := ms) (fun i hi => hms i (by omega)) (by rw [hv]; exact hm), ?_⟩
  unfold bodyF at h
  have ext2 : ∀ {A : List Addr} {H' : Hp} {O' O2 : Own}, Ext H O G H' O' (GA A G) → (∀ a, Ow O2 (GA A G) a → Ow O' (GA A G) a) → Ext H O G H' O2 (GA A G) := fun e q => ⟨e.sm.trans (msk_less q), e.gh⟩
  cases e : g (ds.map some ++ List.replicate m none) with
  | rt d r =>
    rw [e] at h
    intro v σ' H' O' B R' E' n' F' rp
    obtain ⟨O2, R2, q⟩ := R'.outs (N := N) (vs := vs) (pm := pm) hv hms F'
    exact h v H' O2 B R2 (ext2 E' q) n' (rp.mono (msk_less q) fun _ _ _ z => z)
  | nx r =>
    rw [e] at h
    intro σ' H' O' R' E' F'
    rcases hrn with rfl | hx
    · obtain ⟨O2, R2, q⟩ := (Rel.outs (A := []) (N := N) (vs := vs) (pm := pm) (by rw [ga_nil]; exact R') hv hms F')
      refine h .non H' O2 [] R2 (ext2 (by rw [ga_nil]; exact E') q) (fun _ z => nomatch z) (.pur .non)
    · exact absurd e (hx ds r)
  | exc c y r =>
    rw [e] at h
    intro cv dx σ' H' O' R' E' F' ex
    obtain ⟨O2, R2, q⟩ := (Rel.outs (A := []) (N := N) (vs := vs) (pm := pm) (by rw [ga_nil]; exact R') hv hms F')
    have E2 := ext2 (by rw [ga_nil]; exact E') q
    rw [ga_nil] at R2 E2
    exact h cv dx H' O2 R2 E2 ex
  | bk r => rw [e] at h; exact False.elim h
  | ct r => rw [e] at h; exact False.elim h
  | bad => rw [e] at h; exact False.elim h

/-! ### a call -/
inductive Arg where
  | e (f : Rho → R D)
  | s (i : Nat)
def argsR : List Arg → Rho → R (List Opd)
  | [] => aNil
  | .e f :: as => aCons (oVal f) (argsR as)
  | .s i :: as => aCons (oSlot i) (argsR as)
def slotAt (as : List Arg) (j : Nat) : Option Nat := match as[j]? with
  | some (.s i) => some i
  | _ => none
/-- what the changed arguments are is put back -/
def putA : List Arg → Rho → Rho → Rho
  | [], _, r => r
  | .e _ :: as, ro, r => putA as ro.tail r
  | .s i :: as, ro, r => putA as ro.tail (r.set i (ro.head?.join))
def eFn (F : FS) (as : List Arg) : Rho → R D := fun r => (argsR as r).bind fun os r1 => match gets r1 os with
  | some ds => match F ds with
    | .ok d ro => .ok d (putA as ro r1)
    | .exc c x ro => .exc c x (putA as ro r1)
    | .bad => .bad
  | none => .bad
inductive AOk : List Arg → List Opd → Prop
  | nil : AOk [] []
  | e {f : Rho → R D} {d : D} {as : List Arg} {os : List Opd} : AOk as os → AOk (.e f :: as) (.val d :: os)
  | s {i : Nat} {as : List Arg} {os : List Opd} : AOk as os → AOk (.s i :: as) (.slot i :: os)
theorem argsR_ok {B : Str → D → Rho → Prop} : ∀ {as : List Arg} {r : Rho} {A : List Opd → Rho → Prop}, (argsR as r).on A B → (argsR as r).on (fun os r' => AOk as os ∧ A os r') B
  | [], r, A, h => ⟨.nil, h⟩
  | .e f :: as, r, A, h => by
    unfold argsR aCons oVal at h ⊢
    rw [on_bind, on_bind] at h ⊢
    refine h.mono (fun d r1 h1 => ?_) fun _ _ _ z => z
    have h2 : (argsR as r1).on (fun os r2 => (R.ok (.val d :: os) r2).on A B) B := by
      have h1 : ((argsR as r1).bind fun os r2 => .ok (.val d :: os) r2).on A B := h1
      rw [on_bind] at h1
      exact h1
    show ((argsR as r1).bind fun os r2 => .ok (.val d :: os) r2).on _ B
    rw [on_bind]
    exact (argsR_ok h2).mono (fun os r2 ⟨a, b⟩ => ⟨.e a, b⟩) fun _ _ _ z => z
  | .s i :: as, r, A, h => by
    unfold argsR aCons at h ⊢
    rw [on_bind] at h ⊢
    unfold oSlot at h ⊢
    cases e : (r[i]?).join with
    | none => rw [e] at h; exact False.elim h
    | some d =>
      rw [e] at h
      have h1 : ((argsR as r).bind fun os r2 => .ok (.slot i :: os) r2).on A B := h
      rw [on_bind] at h1
      show ((argsR as r).bind fun os r2 => .ok (.slot i :: os) r2).on _ B
      rw [on_bind]
      exact (argsR_ok h1).mono (fun os r2 ⟨a, b⟩ => ⟨.s a, b⟩) fun _ _ _ z => z
theorem slotAt_zero {a : Arg} {as : List Arg} {j : Nat} : slotAt (a :: as) (j + 1) = slotAt as j := by unfold slotAt; rw [List.getElem?_cons_succ]
theorem putA_len : ∀ {as : List Arg} {ro r : Rho}, (putA as ro r).length = r.length
  | [], _, _ => rfl
  | .e _ :: as, ro, r => putA_len (as := as)
  | .s i :: as, ro, r => by unfold putA; rw [putA_len (as := as), List.length_set]
/-- no slot stands twice -/
def NoTw (as : List Arg) : Prop := ∀ j j' i, slotAt as j = some i → slotAt as j' = some i → j = j'
theorem NoTw.tail {a : Arg} {as : List Arg} (h : NoTw (a :: as)) : NoTw as := fun j j' i h1 h2 => by
  have := h (j + 1) (j' + 1) i (by rw [slotAt_zero]; exact h1) (by rw [slotAt_zero]; exact h2)
  omega
theorem putA_out : ∀ {as : List Arg} {ro r : Rho} {i : Nat}, (∀ j, slotAt as j ≠ some i) → (putA as ro r)[i]? = r[i]?
  | [], _, _, _, _ => rfl
  | .e _ :: as, ro, r, i, h => putA_out (as := as) fun j e => h (j + 1) (by rw [slotAt_zero]; exact e)
  | .s k :: as, ro, r, i, h => by
    unfold putA
    rw [putA_out (as := as) fun j e => h (j + 1) (by rw [slotAt_zero]; exact e), List.getElem?_set_ne fun e => h 0 (by rw [e]; rfl)]
theorem putA_in : ∀ {as : List Arg} {ro r : Rho} {i j : Nat}, NoTw as → slotAt as j = some i → i < r.length → (putA as ro r)[i]? = some ((ro[j]?).join)
  | [], _, _, _, j, _, h, _ => by cases h
  | .e _ :: as, ro, r, i, 0, _, h, _ => by cases h
  | .e _ :: as, ro, r, i, j + 1, n, h, hl => by
    rw [slotAt_zero] at h
    unfold putA
    rw [putA_in (as := as) n.tail h hl, List.getElem?_tail]
  | .s k :: as, ro, r, i, 0, n, h, hl => by
    have e : k = i := Option.some.inj h
    subst e
    unfold putA
    rw [putA_out (as := as) fun j e => by
      have := n 0 (j + 1) k rfl (by rw [slotAt_zero]; exact e)
      omega, List.getElem?_set_self hl, List.head?_eq_getElem?]
  | .s k :: as, ro, r, i, j + 1, n, h, hl => by
    rw [slotAt_zero] at h
    unfold putA
    rw [putA_in (as := as) n.tail h (by rw [List.length_set]; exact hl), List.getElem?_tail]
/-- the modes of arguments and parameters go together -/
def okArgs (ms pm : Ms) (as : List Arg) : Bool := (List.range as.length).all fun j => match as[j]? with
  | some (.s i) => decide ((pm j).sh = (ms i).sh) && (pm j).fx && decide ((ms i).sh ≠ .pur) && (List.range as.length).all fun j' => match as[j']? with
    | some (.s i') => decide (i = i' → j = j')
    | _ => true
  | some (.e _) => decide ((pm j).sh = .pur)
  | none => true
theorem okArgs_s {ms pm : Ms} {as : List Arg} (h : okArgs ms pm as = true) {j i : Nat} (e : slotAt as j = some i) : (pm j).sh = (ms i).sh ∧ (ms i).sh ≠ .pur ∧ ∀ j', slotAt as j' = some i → j = j' := by
  unfold slotAt at e
  cases q : as[j]? with
  | none => rw [q] at e; cases e
  | some a =>
    rw [q] at e
    cases a with
    | e f => cases e
    | s k =>
      cases e
      have hj := (List.getElem?_eq_some_iff.mp q).1
      have h1 := List.all_eq_true.mp h j (List.mem_range.mpr hj)
      rw [q] at h1
      simp only [Bool.and_eq_true, decide_eq_true_eq] at h1
      refine ⟨h1.1.1.1, h1.1.2, fun j' e' => ?_⟩
      unfold slotAt at e'
      cases q' : as[j']? with
      | none => rw [q'] at e'; cases e'
      | some a' =>
        rw [q'] at e'
        cases a' with
        | e f => cases e'
        | s k' =>
          cases e'
          have hj' := (List.getElem?_eq_some_iff.mp q').1
          have h2 := List.all_eq_true.mp h1.2 j' (List.mem_range.mpr hj')
          rw [q'] at h2
          exact of_decide_eq_true h2 rfl
theorem okArgs_e {ms pm : Ms} {as : List Arg} (h : okArgs ms pm as = true) {j : Nat} {f : Rho → R D} (e : as[j]? = some (.e f)) : (pm j).sh = .pur := by
  have hj := (List.getElem?_eq_some_iff.mp e).1
  have h1 := List.all_eq_true.mp h j (List.mem_range.mpr hj)
  rw [e] at h1
  exact of_decide_eq_true h1
theorem AOk.len : ∀ {as : List Arg} {os : List Opd}, AOk as os → as.length = os.length
  | _, _, .nil => rfl
  | _, _, .e h => congrArg Nat.succ h.len
  | _, _, .s h => congrArg Nat.succ h.len
theorem AOk.at_ : ∀ {as : List Arg} {os : List Opd} {j : Nat} {o : Opd}, AOk as os → os[j]? = some o → (∃ f d, as[j]? = some (.e f) ∧ o = .val d) ∨ ∃ i, slotAt as j = some i ∧ o = .slot i
  | _, _, _, _, .nil, q => by simp at q
  | _, _, 0, _, AOk.e h, q => by cases q; exact .inl ⟨_, _, rfl, rfl⟩
  | _, _, 0, _, AOk.s h, q => by cases q; exact .inr ⟨_, rfl, rfl⟩
  | _, _, j + 1, o, AOk.e h, q => by
    rcases AOk.at_ (j := j) h (by simpa using q) with ⟨f, d, e1, e2⟩ | ⟨i, e1, e2⟩
    · exact .inl ⟨f, d, by rw [List.getElem?_cons_succ]; exact e1, e2⟩
    · exact .inr ⟨i, by rw [slotAt_zero]; exact e1, e2⟩
  | _, _, j + 1, o, AOk.s h, q => by
    rcases AOk.at_ (j := j) h (by simpa using q) with ⟨f, d, e1, e2⟩ | ⟨i, e1, e2⟩
    · exact .inl ⟨f, d, by rw [List.getElem?_cons_succ]; exact e1, e2⟩
    · exact .inr ⟨i, by rw [slotAt_zero]; exact e1, e2⟩
theorem RepOs.len {K : PySem.W.Frag} {M : Hp} {σ : L2.St} : ∀ {vs : List V} {os : List Opd}, RepOs K M σ vs os → vs.length = os.length
  | _, _, .nil => rfl
  | _, _, .cons _ b => congrArg Nat.succ b.len
theorem RepOs.at_ {K : PySem.W.Frag} {M : Hp} {σ : L2.St} : ∀ {vs : List V} {os : List Opd} {j : Nat} {o : Opd}, RepOs K M σ vs os → os[j]? = some o → ∃ v, vs[j]? = some v ∧ RepO K M σ v o
  | _, _, _, _, .nil, e => by simp at e
  | _, _, 0, _, .cons a _, e => by cases e; exact ⟨_, rfl, a⟩
  | _, _, j + 1, o, .cons _ b, e => by
    obtain ⟨v, e1, e2⟩ := RepOs.at_ (j := j) b (by simpa using e)
    exact ⟨v, by simpa using e1, e2⟩
theorem gets_at {r : Rho} : ∀ {os : List Opd} {ds : List D} {j : Nat} {d : D}, gets r os = some ds → ds[j]? = some d → ∃ o, os[j]? = some o ∧ o.get r = some d
  | [], _, _, _, h, e => by cases h; simp at e
  | o :: os, ds, j, d, h, e => by
    obtain ⟨d0, h1, h⟩ := bind_some h
    obtain ⟨ds0, h2, h⟩ := bind_some h
    cases h
    cases j with
    | zero => cases e; exact ⟨o, rfl, h1⟩
    | succ j =>
      obtain ⟨o', e1, e2⟩ := gets_at (j := j) h2 (by simpa using e)
      exact ⟨o', by simpa using e1, e2⟩
theorem gets_len {r : Rho} : ∀ {os : List Opd} {ds : List D}, gets r os = some ds → ds.length = os.length
  | [], _, h => by cases h; rfl
  | o :: os, ds, h => by
    obtain ⟨d0, h1, h⟩ := bind_some h
    obtain ⟨ds0, h2, h⟩ := bind_some h
    cases h
    exact congrArg Nat.succ (gets_len h2)
section
variable {X : Cx} {W : WX} {ms pm : Ms} {rs : Shp} {σ : L2.St} {H : Hp} {r : Rho} {O : Own} {G : Gh}
/-- the callee's part of what is owned -/
def ownC (as : List Arg) (O : Own) : Own := fun j => match slotAt as j with
  | some i => O i
  | none => []
def gC (as : List Arg) (O : Own) (G : Gh) : Gh := fun a => G a ∨ ∃ i, (∀ j, slotAt as j ≠ some i) ∧ a ∈ O i
theorem ow_c {as : List Arg} {a : Addr} : Ow (ownC as O) (gC as O G) a ↔ Ow O G a := by
  constructor
  · rintro ((g | ⟨i, _, hi⟩) | ⟨j, hj⟩)
    · exact .inl g
    · exact .inr ⟨i, hi⟩
    · unfold ownC at hj
      split at hj
      · exact .inr ⟨_, hj⟩
      · cases hj
  · rintro (g | ⟨i, hi⟩)
    · exact .inl (.inl g)
    · by_cases q : ∃ j, slotAt as j = some i
      · obtain ⟨j, e⟩ := q
        refine .inr ⟨j, ?_⟩
        unfold ownC
        rw [e]
        exact hi
      · exact .inl (.inr ⟨i, fun j e => q ⟨j, e⟩, hi⟩)
open Classical in
/-- behind the call -/
noncomputable def ownB (as : List Arg) (O Oc : Own) : Own := fun i => if h : ∃ j, slotAt as j = some i then Oc (choose h) else O i
theorem ownB_in {as : List Arg} {O Oc : Own} {i j : Nat} (n : NoTw as) (h : slotAt as j = some i) : ownB as O Oc i = Oc j := by
  have hh : ∃ j, slotAt as j = some i := ⟨j, h⟩
  unfold ownB
  rw [dif_pos hh]
  exact congrArg Oc (n _ _ i (Classical.choose_spec hh) h)
theorem ownB_out {as : List Arg} {O Oc : Own} {i : Nat} (h : ∀ j, slotAt as j ≠ some i) : ownB as O Oc i = O i := by
  unfold ownB
  rw [dif_neg fun ⟨j, e⟩ => h j e]
theorem noTw_of {as : List Arg} (h : okArgs ms pm as = true) : NoTw as := fun j j' i h1 h2 => (okArgs_s h h1).2.2 j' h2
theorem Rel.enter {as : List Arg} {os : List Opd} {vs : List V} {ds : List D} (R : Rel X.K ms σ H r O G) (ok : okArgs ms pm as = true) (ao : AOk as os) (ro : RepOs X.K (msk H (Ow O G)) σ vs os) (hg : gets r os = some ds) :
    vs.length = as.length ∧ ds.length = as.length ∧ Rel X.K pm (vs.map some) H (ds.map some) (ownC as O) (gC as O G) := by
  have l1 : vs.length = as.length := ro.len.trans ao.len.symm
  have l2 : ds.length = as.length := (gets_len hg).trans ao.len.symm
  have me : msk H (Ow (ownC as O) (gC as O G)) = msk H (Ow O G) := by rw [show Ow (ownC as O) (gC as O G) = Ow O G from funext fun a => propext ow_c]
  refine ⟨l1, l2, ⟨by rw [List.length_map, List.length_map, l1, l2], fun j d e => ?_, fun j hj => ?_, ?_, fun j j' a hj hj' => ?_, fun j a hj => ?_⟩⟩
  · rw [me]
    have e' : ds[j]? = some d := by
      rw [List.getElem?_map] at e
      cases q : ds[j]? with
      | none => rw [q] at e; cases e
      | some y => rw [q] at e; exact Option.some.inj e
    obtain ⟨o, eo, og⟩ := gets_at hg e'
    obtain ⟨v, ev, rv⟩ := ro.at_ eo
    refine ⟨v, by rw [List.getElem?_map, ev]; rfl, ?_⟩
    rcases ao.at_ eo with ⟨f, d2, e1, rfl⟩ | ⟨i, e1, rfl⟩
    · cases og
      have hs := okArgs_e ok e1
      have hc : ownC as O j = [] := by unfold ownC slotAt; rw [e1]
      rw [hs, hc]
      exact .pur rv
    · obtain ⟨v2, ev2, rs⟩ := R.slot i d (join_some (dropX_some og))
      have rv' : σ[i]? = some (some v) := rv
      rw [rv'] at ev2
      cases ev2
      have hc : ownC as O j = O i := by unfold ownC; rw [e1]
      rw [(okArgs_s ok e1).1, hc]
      exact rs
  · unfold ownC
    cases q : slotAt as j with
    | none => rfl
    | some i =>
      exfalso
      have hlt : j < as.length := by
        unfold slotAt at q
        cases z : as[j]? with
        | none => rw [z] at q; cases q
        | some _ => exact (List.getElem?_eq_some_iff.mp z).1
      exact hj (ds[j]'(by omega)) (by rw [List.getElem?_map, List.getElem?_eq_getElem (by omega)]; rfl)
  · rintro a (g | ⟨i, _, hi⟩)
    · exact R.tr a g
    · exact R.trO a (.inr ⟨i, hi⟩)
  · unfold ownC at hj hj'
    split at hj
    · rename_i i e
      split at hj'
      · rename_i i' e'
        have := R.dj i i' a hj hj'
        subst this
        exact (okArgs_s ok e).2.2 j' e'
      · cases hj'
    · cases hj
  · unfold ownC at hj
    split at hj
    · rename_i i e
      rintro (g | ⟨i', h1, h2⟩)
      · exact R.dG i a hj g
      · have := R.dj i i' a hj h2
        subst this
        exact h1 j e
    · cases hj
theorem Rel.back {as : List Arg} {vs : List V} {H' : Hp} {ro : Rho} {Oc : Own} {A : List Addr} (R : Rel X.K ms σ H r O G) (ok : okArgs ms pm as = true) (hv : ∀ j i, slotAt as j = some i → ∃ v, vs[j]? = some v ∧ σ[i]? = some (some v))
    (Rc : Rel X.K pm (vs.map some) H' ro Oc (GA A (gC as O G))) (Ec : Ext H (ownC as O) (gC as O G) H' Oc (GA A (gC as O G))) (nA : ∀ a ∈ A, ¬ gC as O G a) (hl : vs.length = as.length) :
    (∀ a, Ow (ownB as O Oc) (GA A G) a ↔ Ow Oc (GA A (gC as O G)) a) ∧ Rel X.K ms σ H' (putA as ro r) (ownB as O Oc) (GA A G) ∧ Ext H O G H' (ownB as O Oc) (GA A G) ∧ (∀ a ∈ A, ¬ G a) := by
  have n := noTw_of ok
  have hj : ∀ {j : Nat} {a : Addr}, a ∈ Oc j → ∃ i, slotAt as j = some i := fun {j a} h => by
    cases q : slotAt as j with
    | some i => exact ⟨i, rfl⟩
    | none =>
      exfalso
      by_cases z : ∃ d, ro[j]? = some (some d)
      · obtain ⟨d, e⟩ := z
        obtain ⟨v, e1, rs⟩ := Rc.slot j d e
        have hjl : j < as.length := by
          have := (List.getElem?_eq_some_iff.mp e1).1
          rw [List.length_map, hl] at this
          exact this
        have hs : (pm j).sh = .pur := by
          cases z2 : as[j]? with
          | none => rw [List.getElem?_eq_getElem hjl] at z2; cases z2
          | some b =>
            cases b with
            | e f => exact okArgs_e ok z2
            | s i => unfold slotAt at q; rw [z2] at q; cases q
        rw [hs] at rs
        rw [rs.purI.1] at h
        cases h
      · rw [Rc.emp j fun d e => z ⟨d, e⟩] at h
        cases h
  have ow : ∀ a, Ow (ownB as O Oc) (GA A G) a ↔ Ow Oc (GA A (gC as O G)) a := fun a => by
    constructor
    · rintro ((g | g) | ⟨i, hi⟩)
      · exact .inl (.inl g)
      · exact .inl (.inr (.inl g))
      · by_cases q : ∃ j, slotAt as j = some i
        · obtain ⟨j, e⟩ := q
          rw [ownB_in n e] at hi
          exact .inr ⟨j, hi⟩
        · have q' : ∀ j, slotAt as j ≠ some i := fun j e => q ⟨j, e⟩
          rw [ownB_out q'] at hi
          exact .inl (.inr (.inr ⟨i, q', hi⟩))
    · rintro ((g | g | ⟨i, h1, h2⟩) | ⟨j, hj'⟩)
      · exact .inl (.inl g)
      · exact .inl (.inr g)
      · exact .inr ⟨i, by rw [ownB_out h1]; exact h2⟩
      · obtain ⟨i, e⟩ := hj hj'
        exact .inr ⟨i, by rw [ownB_in n e]; exact hj'⟩
  have me : msk H' (Ow (ownB as O Oc) (GA A G)) = msk H' (Ow Oc (GA A (gC as O G))) := by rw [show Ow (ownB as O Oc) (GA A G) = _ from funext fun a => propext (ow a)]
  have me0 : msk H (Ow (ownC as O) (gC as O G)) = msk H (Ow O G) := by rw [show Ow (ownC as O) (gC as O G) = Ow O G from funext fun a => propext ow_c]
  have sm : Same (msk H (Ow O G)) (msk H' (Ow (ownB as O Oc) (GA A G))) := by rw [me, ← me0]; exact Ec.sm
  refine ⟨ow, ⟨by rw [putA_len]; exact R.len, fun i d e => ?_, fun i hi => ?_, ?_, fun i i' a hi hi' => ?_, fun i a hi => ?_⟩, ⟨sm, fun a g => ⟨.inr g, (Ec.gh a (.inl g)).2⟩⟩, fun a ha g => nA a ha (.inl g)⟩
  · by_cases q : ∃ j, slotAt as j = some i
    · obtain ⟨j, ej⟩ := q
      have hlt : i < r.length := by
        have := (List.getElem?_eq_some_iff.mp e).1
        rw [putA_len] at this
        exact this
      rw [putA_in n ej hlt] at e
      obtain ⟨v', e1, rs⟩ := Rc.slot j d (join_some (Option.some.inj e))
      obtain ⟨v, ev, ei⟩ := hv j i ej
      rw [List.getElem?_map, ev] at e1
      cases e1
      refine ⟨_, ei, ?_⟩
      rw [ownB_in n ej, me, ← (okArgs_s ok ej).1]
      exact rs
    · have q' : ∀ j, slotAt as j ≠ some i := fun j e => q ⟨j, e⟩
      rw [putA_out q'] at e
      obtain ⟨v, e1, rs⟩ := R.slot i d e
      refine ⟨v, e1, ?_⟩
      rw [ownB_out q']
      refine rs.mono sm fun a ha o ho => ?_
      rw [(Ec.gh a (.inr ⟨i, q', ha⟩)).2]
      exact ho
  · by_cases q : ∃ j, slotAt as j = some i
    · obtain ⟨j, ej⟩ := q
      rw [ownB_in n ej]
      refine Rc.emp j fun d e => ?_
      obtain ⟨v, ev, ei⟩ := hv j i ej
      have hlt : i < r.length := by rw [R.len]; exact (List.getElem?_eq_some_iff.mp ei).1
      exact hi d (by rw [putA_in n ej hlt, e]; rfl)
    · have q' : ∀ j, slotAt as j ≠ some i := fun j e => q ⟨j, e⟩
      rw [ownB_out q']
      exact R.emp i fun d e => hi d (by rw [putA_out q']; exact e)
  · rintro a (g | g)
    · exact Rc.tr a (.inl g)
    · exact Rc.tr a (.inr (.inl g))
  · by_cases q : ∃ j, slotAt as j = some i
    · obtain ⟨j, ej⟩ := q
      rw [ownB_in n ej] at hi
      by_cases q2 : ∃ j, slotAt as j = some i'
      · obtain ⟨j2, ej2⟩ := q2
        rw [ownB_in n ej2] at hi'
        have := Rc.dj j j2 a hi hi'
        subst this
        rw [ej] at ej2
        exact Option.some.inj ej2
      · have q' : ∀ j, slotAt as j ≠ some i' := fun j e => q2 ⟨j, e⟩
        rw [ownB_out q'] at hi'
        exact absurd (.inr (.inr ⟨i', q', hi'⟩)) (Rc.dG j a hi)
    · have q' : ∀ j, slotAt as j ≠ some i := fun j e => q ⟨j, e⟩
      rw [ownB_out q'] at hi
      by_cases q2 : ∃ j, slotAt as j = some i'
      · obtain ⟨j2, ej2⟩ := q2
        rw [ownB_in n ej2] at hi'
        exact absurd (.inr (.inr ⟨i, q', hi⟩)) (Rc.dG j2 a hi')
      · have q2' : ∀ j, slotAt as j ≠ some i' := fun j e => q2 ⟨j, e⟩
        rw [ownB_out q2'] at hi'
        exact R.dj i i' a hi hi'
  · by_cases q : ∃ j, slotAt as j = some i
    · obtain ⟨j, ej⟩ := q
      rw [ownB_in n ej] at hi
      rintro (g | g)
      · exact Rc.dG j a hi (.inl g)
      · exact Rc.dG j a hi (.inr (.inl g))
    · have q' : ∀ j, slotAt as j ≠ some i := fun j e => q ⟨j, e⟩
      rw [ownB_out q'] at hi
      rintro (g | g)
      · exact nA a g (.inr ⟨i, q', hi⟩)
      · exact R.dG i a hi g
variable {k : Nat} {f : Addr} {fd : FuncData} {ps : List Str} {n : Nat} {F : FS} {x : Str} {p pos : Pos} {e : Expr} {es : List Expr} {as : List Arg}
/-- a call's reading -/
theorem fn_read (ok : okArgs ms pm as = true) (hn : as.length = n) {Q : VK} (h : tEo X W ms rs (eFn F as) σ H Q) : tA X W ms (argsR as) σ H fun vs H1 => spF X.K X.mg pm rs n F vs H1 Q (WE W σ) := by
  obtain ⟨r, O, G, R, h⟩ := h
  unfold eFn at h
  rw [on_bind] at h
  refine tA_step R (argsR_ok h) fun os r1 vs H1 O1 ⟨ao, h1⟩ R1 E1 p1 => ?_
  cases hg : gets r1 os with
  | none => rw [hg] at h1; exact False.elim h1
  | some ds =>
    rw [hg] at h1
    obtain ⟨l1, l2, Rc⟩ := R1.enter (pm := pm) ok ao p1 hg
    have hv : ∀ j i, slotAt as j = some i → ∃ v, vs[j]? = some v ∧ σ[i]? = some (some v) := fun j i ej => by
      have hlt : j < os.length := by
        rw [← ao.len]
        unfold slotAt at ej
        cases z : as[j]? with
        | none => rw [z] at ej; cases ej
        | some _ => exact (List.getElem?_eq_some_iff.mp z).1
      have eo := List.getElem?_eq_getElem hlt
      obtain ⟨v, ev, rv⟩ := p1.at_ eo
      refine ⟨v, ev, ?_⟩
      rcases ao.at_ eo with ⟨f, d, e1, e2⟩ | ⟨i', e1, e2⟩
      · unfold slotAt at ej; rw [e1] at ej; cases ej
      · rw [ej] at e1
        cases e1
        rw [e2] at rv
        exact rv
    refine ⟨ds, ownC as O1, gC as O1 G, l1.trans hn, l2.trans hn, Rc, ?_⟩
    simp only at h1
    cases hF : F ds with
    | bad => rw [hF] at h1; exact False.elim h1
    | ok d ro =>
      rw [hF] at h1
      intro v H' O' A R' E' nA rp
      obtain ⟨ow, R2, E2, n2⟩ := R1.back ok hv R' E' nA l1
      refine h1 v H' _ A R2 (E1.trans E2) n2 ?_
      rw [show Ow (ownB as O1 O') (GA A G) = Ow O' (GA A (gC as O1 G)) from funext fun a => propext (ow a)]
      exact rp
    | exc c y ro =>
      rw [hF] at h1
      intro cv dx H' O' R' E' ex
      obtain ⟨ow, R2, E2, n2⟩ := Rel.back (A := []) (ro := ro) (Oc := O') (vs := vs) (H' := H') R1 ok hv (by rw [ga_nil]; exact R') (by rw [ga_nil]; exact E') (fun _ z => nomatch z) l1
      rw [ga_nil] at R2 E2
      exact h1 cv dx H' _ R2 (E1.trans E2) ex
theorem run_fnG {sp : Sp} {E : XK} {pins : List (Addr × Obj)} {s : Shared} {Q : VK} {us : List Value} {vs : List V} (F : FnG X.prog X.w X.K X.mg X.base k f fd ps sp) (hr : Room k X.A) (hgd : X.A.guards = some []) (hb : Binds X.K fd ps []) (hx : PassesAt (L2.CX X.prog X.w) X σ E)
    (I : Inv X pins σ H s) (r : Vals vs us) (h : sp vs H Q E) : wpAny (model X.prog X.w) X.A (call (.ref f) us) (EP X pins σ Q) X.xe s := by
  have hl : us.length = ps.length := by rw [← r.length]; exact F.len _ _ _ _ h
  have b := hb s us I.kIn (by rw [List.append_nil]; exact hl)
  rw [List.append_nil] at b
  refine wpAny_call (codeAny_mono (F.run X.A X.stack s H ⟨us, []⟩ us vs Q E hr hgd I.env0 b r h) fun r s' hq => ?_)
  cases r with
  | error e => exact hx pins H s e s' I hq
  | ok fl =>
    cases fl with
    | ret u => exact I.after hq
    | next => exact False.elim hq
    | brk => exact False.elim hq
    | cont => exact False.elim hq
theorem ceo_fn (FN : FnG X.prog X.w X.K X.mg X.base k f fd ps (spF X.K X.mg pm rs n F)) (hr : Room k X.A) (hgd : X.A.guards = some []) (tk : Takes X W) (hm : X.mg x = some (.ref f)) (hk : PySem.W.keepIn X.K (.ref f) = true) (hb : Binds X.K fd ps [])
    (ha : CA X W ms (e :: es) (argsR as)) (ok : okArgs ms pm as = true := by rfl) (hn : as.length = n := by rfl) (hg : Gl X x := by rfl) (hdb : (x == ("__debug__" : Str)) = false := by decide) (he : starEach (e :: es) X.env = (false, eval e X.env) :: starEach es X.env := by rfl) (hpl : (backTo pos (starEach es X.env)).any (·.1) = false := by rfl) :
    CEo X W ms rs (.Call (.Name x p) (e :: es) [] pos) (eFn F as) := by
  refine ⟨fun pins s σ H Q I h => ?_⟩
  refine wpAny_Call_Name_kw (ld_glob I hg hm ?_ hdb)
  refine PySem.W.callWith_K (h₀ := X.base) I.ok.mod.kin hk (thn (ha.run pos pins s σ H _ I (fn_read ok hn h)) fun us s1 ⟨vs, H1, I1, r, q⟩ => ⟨I1.kIn, ?_⟩) he hpl
  exact run_fnG FN hr hgd hb (passAt tk σ) I1 r q
theorem ce_fn (FN : FnG X.prog X.w X.K X.mg X.base k f fd ps (spF X.K X.mg pm .pur n F)) (hr : Room k X.A) (hgd : X.A.guards = some []) (tk : Takes X W) (hm : X.mg x = some (.ref f)) (hk : PySem.W.keepIn X.K (.ref f) = true) (hb : Binds X.K fd ps [])
    (ha : CA X W ms (e :: es) (argsR as)) (ok : okArgs ms pm as = true := by rfl) (hn : as.length = n := by rfl) (hg : Gl X x := by rfl) (hdb : (x == ("__debug__" : Str)) = false := by decide) (he : starEach (e :: es) X.env = (false, eval e X.env) :: starEach es X.env := by rfl) (hpl : (backTo pos (starEach es X.env)).any (·.1) = false := by rfl) :
    CE X W ms (.Call (.Name x p) (e :: es) [] pos) (eFn F as) := ce_own (ceo_fn FN hr hgd tk hm hk hb ha ok hn hg hdb he hpl)
end
end DL
end

section
set_option maxHeartbeats 1000000
namespace DL
open PySem PySem.Spec PyProof.Rows L2

/-! ## the operators' meanings -/
section
variable {X : Cx}
/-- data of int shape -/
def dAdd : D → D → Option D
  | .int i, .int j => some (.int (i + j))
  | .str a, .str b => if a.length + b.length ≤ sizeLine then some (.str (a ++ b)) else none
  | _, _ => none
def dSub : D → D → Option D
  | .int i, .int j => some (.int (i - j))
  | _, _ => none
def i64 (i : Int) : Bool := decide (-(2 ^ 64) < i) && decide (i < 2 ^ 64)
theorem i64_ok {i : Int} (h : i64 i = true) : -(2 ^ 64) < i ∧ i < 2 ^ 64 := by
  unfold i64 at h
  obtain ⟨a, b⟩ := Bool.and_eq_true_iff.mp h
  exact ⟨of_decide_eq_true a, of_decide_eq_true b⟩
/-- a text some times -/
def strMul (x : Str) (n : Int) : Str := Txt.mul x n
def dMul : D → D → Option D
  | .int i, .int j => if (i64 i || i64 j) = true then some (.int (i * j)) else none
  | .str x, .int n => if (inR n && (decide (n < 1) || decide (x.length * n.toNat ≤ sizeLine))) = true then some (.str (strMul x n)) else none
  | _, _ => none
def dMod : D → D → Option D
  | .int i, .int j => if 0 < j then some (.int (i % j)) else none
  | _, _ => none
def dFdiv : D → D → Option D
  | .int i, .int j => if 0 < j ∧ j < 1073741824 then some (.int (i / j)) else none
  | _, _ => none
def rAdd : R2 := fun x y H Q => rI0 (fun i j => .int (i + j)) x y H Q ∨ ∃ i j, x = .str i ∧ y = .str j ∧ i.length + j.length ≤ sizeLine ∧ Q (.str (i ++ j)) H
theorem or_add : OpR X (binaryOp .Add) rAdd := op_add.or op_add_str
theorem sr_add : SemR X rAdd dAdd := fun x y a b d H W Q ra rb tr e q => by
  cases a <;> cases b <;> first | (cases e; done) | skip
  · cases e
    rw [ra.intI, rb.intI]
    exact .inl ⟨_, _, rfl, rfl, q _ H (Same.refl _) (.int _)⟩
  · obtain ⟨hz, rfl⟩ := ite_some e
    rw [ra.strI, rb.strI]
    exact .inr ⟨_, _, rfl, rfl, hz, q _ H (Same.refl _) (.str _)⟩
theorem sr_sub : SemR X (rI0 fun i j => .int (i - j)) dSub := fun x y a b d H W Q ra rb tr e q => by
  cases a <;> cases b <;> first | (cases e; done) | skip
  cases e
  rw [ra.intI, rb.intI]
  exact ⟨_, _, rfl, rfl, q _ H (Same.refl _) (.int _)⟩
theorem div_ge {a b : Int} (h : 1 < b) (ha : 0 ≤ a) (hb : a * b ≤ 16777216) : ¬ a > (2 ^ 63 - 1) / b := by
  intro q
  have h1 : (2 ^ 63 - 1) / b * b + (2 ^ 63 - 1) % b = 2 ^ 63 - 1 := Int.ediv_mul_add_emod _ _
  have h2 : (2 ^ 63 - 1) % b < b := Int.emod_lt_of_pos _ (by omega)
  have h3 : ((2 ^ 63 - 1) / b + 1) * b ≤ a * b := Int.mul_le_mul_of_nonneg_right (by omega) (by omega)
  rw [Int.add_mul, Int.one_mul] at h3
  have h4 : b ≤ 16777216 ∨ a = 0 := by
    by_cases z : a = 0
    · exact .inr z
    · left
      have : 1 * b ≤ a * b := Int.mul_le_mul_of_nonneg_right (by omega) (by omega)
      omega
  rcases h4 with h4 | h4
  · omega
  · subst h4
    have : 0 ≤ (2 ^ 63 - 1) / b := Int.ediv_nonneg (by decide) (by omega)
    omega
theorem mulOk_of {x : Str} {n : Int} (h : (inR n && (decide (n < 1) || decide (x.length * n.toNat ≤ sizeLine))) = true) : MulOk x n := by
  obtain ⟨h1, h2⟩ := Bool.and_eq_true_iff.mp h
  obtain ⟨h3, h4⟩ := inR_ok h1
  have hs : sizeLine = 16777216 := sizeLine_eq
  have bound : ¬ n < 1 → x.length * n.toNat ≤ 16777216 := fun q => by
    rw [decide_eq_false q, Bool.false_or] at h2
    have := of_decide_eq_true h2
    rw [hs] at this
    exact this
  refine ⟨?_, fun q c => ?_, fun q c => ?_⟩
  · rw [decide_eq_false (by omega), decide_eq_false (by omega)]; rfl
  · have b := bound q
    have hn : n ≠ 1 := fun z => by
      have c1 := (Bool.or_eq_false_iff.mp c).1
      rw [z] at c1
      exact absurd c1 (by decide)
    refine div_ge (by omega) (Int.natCast_nonneg _) ?_
    have : ((x.length * n.toNat : Nat) : Int) ≤ ((16777216 : Nat) : Int) := Int.ofNat_le.mpr b
    rw [Int.natCast_mul, Int.toNat_of_nonneg (by omega)] at this
    exact this
  · have b := bound q
    exact decide_eq_false (by rw [hs]; omega)
theorem op_mul_strD : OpR X (binaryOp .Mult) (fun x y H Q => ∃ a n, x = .str a ∧ y = .int n ∧ (inR n && (decide (n < 1) || decide (a.length * n.toNat ≤ sizeLine))) = true ∧ Q (.str (strMul a n)) H) := by
  intro pins s σ H x y v u Q I rx ry h
  obtain ⟨a, n, rfl, rfl, hz, q⟩ := h
  obtain ⟨t, rfl⟩ := rx
  obtain ⟨t', rfl⟩ := ry
  exact PySem.SB.mul (mulOk_of hz) fun t2 k => ⟨.str (strMul a n), H, I.tok k, ⟨_, rfl⟩, q⟩
def rMul : R2 := fun x y H Q => rI CMul (fun i j => .int (i * j)) x y H Q ∨ ∃ a n, x = .str a ∧ y = .int n ∧ (inR n && (decide (n < 1) || decide (a.length * n.toNat ≤ sizeLine))) = true ∧ Q (.str (strMul a n)) H
theorem or_mul : OpR X (binaryOp .Mult) rMul := op_mul.or op_mul_strD
theorem sr_mul : SemR X rMul dMul := fun x y a b d H W Q ra rb tr e q => by
  cases a <;> cases b <;> first | (cases e; done) | skip
  · obtain ⟨hz, rfl⟩ := ite_some e
    rw [ra.intI, rb.intI]
    refine .inl ⟨_, _, rfl, rfl, ?_, q _ H (Same.refl _) (.int _)⟩
    rcases Bool.or_eq_true_iff.mp hz with z | z
    · exact .inl (i64_ok z)
    · exact .inr (i64_ok z)
  · obtain ⟨hz, rfl⟩ := ite_some e
    rw [ra.strI, rb.intI]
    exact .inr ⟨_, _, rfl, rfl, hz, q _ H (Same.refl _) (.str _)⟩
theorem sr_mod : SemR X (rI (fun _ j => 0 < j) fun i j => .int (i % j)) dMod := fun x y a b d H W Q ra rb tr e q => by
  cases a <;> cases b <;> first | (cases e; done) | skip
  obtain ⟨hz, rfl⟩ := ite_some e
  rw [ra.intI, rb.intI]
  exact ⟨_, _, rfl, rfl, hz, q _ H (Same.refl _) (.int _)⟩
theorem sr_fdiv : SemR X (rI CDiv fun i j => .int (i / j)) dFdiv := fun x y a b d H W Q ra rb tr e q => by
  cases a <;> cases b <;> first | (cases e; done) | skip
  obtain ⟨hz, rfl⟩ := ite_some e
  rw [ra.intI, rb.intI]
  exact ⟨_, _, rfl, rfl, hz, q _ H (Same.refl _) (.int _)⟩

/-! comparisons -/
def dEqv (x y : D) : Option Bool := match x, y with
  | .int i, .int j => some (decide (i = j))
  | .str i, .str j => some (decide (i = j))
  | .bool i, .bool j => some (decide (i = j))
  | .none, .none => some true
  | .none, .int _ => some false
  | .int _, .none => some false
  | .none, .str _ => some false
  | .str _, .none => some false
  | .int _, .str _ => some false
  | .str _, .int _ => some false
  | x, y => if (SeqAt.shaped x && SeqAt.shaped y) = true then some (PyData.eqv x y) else none
def dEq (x y : D) : Option D := (dEqv x y).map .bool
def dNe (x y : D) : Option D := (dEqv x y).map fun b => .bool !b
def rEqA (K : PySem.W.Frag) : R2 := fun x y H Q => rEq x y H Q ∨ rEqD K x y H Q
def rNeA (K : PySem.W.Frag) : R2 := fun x y H Q => rNe x y H Q ∨ rNeD K x y H Q
theorem or_eq (hu : X.A.units + 64 < cLine) : OpR X (compareOp .Eq) (rEqA X.K) := op_eq.or (op_eqD hu)
theorem or_ne (hu : X.A.units + 64 < cLine) : OpR X (compareOp .NotEq) (rNeA X.K) := op_ne.or (op_neD hu)
theorem eqv_read {x y : V} {a b : D} {c : Bool} {H : Hp} {W : Gh} (ra : RepB X.K (msk H W) H x a) (rb : RepB X.K (msk H W) H y b) (e : dEqv a b = some c) :
    (scal x y = true ∧ c = decide (x = y)) ∨ (Dp X.K H x a ∧ Dp X.K H y b ∧ SeqAt.shaped a = true ∧ SeqAt.shaped b = true ∧ c = PyData.eqv a b) := by
  have gen : (if (SeqAt.shaped a && SeqAt.shaped b) = true then some (PyData.eqv a b) else none) = some c → (scal x y = true ∧ c = decide (x = y)) ∨ (Dp X.K H x a ∧ Dp X.K H y b ∧ SeqAt.shaped a = true ∧ SeqAt.shaped b = true ∧ c = PyData.eqv a b) := fun e => by
    obtain ⟨hz, rfl⟩ := ite_some e
    obtain ⟨h1, h2⟩ := Bool.and_eq_true_iff.mp hz
    exact .inr ⟨ra.rep.dp, rb.rep.dp, h1, h2, rfl⟩
  cases a <;> cases b <;> first | exact gen e | (refine .inl ?_; cases e; first | rw [ra.intI] | rw [ra.strI] | rw [ra.blI] | rw [ra.nonI]) <;> first | rw [rb.intI] | rw [rb.strI] | rw [rb.blI] | rw [rb.nonI]
  all_goals simp [scal]
theorem sr_eq : SemR X (rEqA X.K) dEq := fun x y a b d H W Q ra rb tr e q => by
  unfold dEq at e
  obtain ⟨c, e1, rfl⟩ := Option.map_eq_some_iff.mp e
  have q' := q (.bl c) H (Same.refl _) (.bl c)
  rcases eqv_read ra rb e1 with ⟨h1, rfl⟩ | ⟨h1, h2, h3, h4, rfl⟩
  · exact .inl ⟨h1, q'⟩
  · exact .inr ⟨_, _, h1, h2, h3, h4, q'⟩
theorem sr_ne : SemR X (rNeA X.K) dNe := fun x y a b d H W Q ra rb tr e q => by
  unfold dNe at e
  obtain ⟨c, e1, rfl⟩ := Option.map_eq_some_iff.mp e
  have q' := q (.bl !c) H (Same.refl _) (.bl !c)
  rcases eqv_read ra rb e1 with ⟨h1, rfl⟩ | ⟨h1, h2, h3, h4, rfl⟩
  · exact .inl ⟨h1, q'⟩
  · exact .inr ⟨_, _, h1, h2, h3, h4, q'⟩
/-- the order of ints, of texts -/
def dOrd (p : Int → Int → Bool) (q : List Nat → List Nat → Bool) : D → D → Option D
  | .int i, .int j => some (.bool (p i j))
  | .str a, .str b => some (.bool (q a.cps.toList b.cps.toList))
  | _, _ => none
def dLt := dOrd (fun i j => decide (i < j)) fun a b => decide (a < b)
def dLe := dOrd (fun i j => decide (i ≤ j)) fun a b => !decide (b < a)
def dGt := dOrd (fun i j => decide (j < i)) fun a b => decide (b < a)
def dGe := dOrd (fun i j => decide (j ≤ i)) fun a b => !decide (a < b)
def rOrd (p : Int → Int → Bool) (q : List Nat → List Nat → Bool) : R2 := fun x y H Q => rI0 (fun i j => .bl (p i j)) x y H Q ∨ ∃ i j, x = .str i ∧ y = .str j ∧ Q (.bl (q i.cps.toList j.cps.toList)) H
theorem sr_ord {p : Int → Int → Bool} {g : List Nat → List Nat → Bool} : SemR X (rOrd p g) (dOrd p g) := fun x y a b d H W Q ra rb tr e q => by
  cases a <;> cases b <;> first | (cases e; done) | skip
  · cases e
    rw [ra.intI, rb.intI]
    exact .inl ⟨_, _, rfl, rfl, q _ H (Same.refl _) (.bl _)⟩
  · cases e
    rw [ra.strI, rb.strI]
    exact .inr ⟨_, _, rfl, rfl, q _ H (Same.refl _) (.bl _)⟩
theorem or_lt : OpR X (compareOp .Lt) (rOrd (fun i j => decide (i < j)) fun a b => decide (a < b)) := op_lt.or op_lt_str
theorem or_le : OpR X (compareOp .LtE) (rOrd (fun i j => decide (i ≤ j)) fun a b => !decide (b < a)) := op_le.or op_le_str
theorem or_gt : OpR X (compareOp .Gt) (rOrd (fun i j => decide (j < i)) fun a b => decide (b < a)) := op_gt.or op_gt_str
theorem or_ge : OpR X (compareOp .GtE) (rOrd (fun i j => decide (j ≤ i)) fun a b => !decide (a < b)) := op_ge.or op_ge_str
theorem sr_lt : SemR X (rOrd (fun i j => decide (i < j)) fun a b => decide (a < b)) dLt := sr_ord
theorem sr_le : SemR X (rOrd (fun i j => decide (i ≤ j)) fun a b => !decide (b < a)) dLe := sr_ord
theorem sr_gt : SemR X (rOrd (fun i j => decide (j < i)) fun a b => decide (b < a)) dGt := sr_ord
theorem sr_ge : SemR X (rOrd (fun i j => decide (j ≤ i)) fun a b => !decide (a < b)) dGe := sr_ord
/-- a text in a text -/
def strIn (i j : Str) : Bool := !(Builtin.Str.occurrences j i 0 j.length 1).isEmpty
def dInS : D → D → Option D
  | .str i, .str j => some (.bool (strIn i j))
  | _, _ => none
def dNotInS : D → D → Option D
  | .str i, .str j => some (.bool (!strIn i j))
  | _, _ => none
theorem sr_inS : SemR X (fun x y H Q => ∃ i j, x = .str i ∧ y = .str j ∧ Q (.bl (!(Builtin.Str.occurrences j i 0 j.length 1).isEmpty)) H) dInS := fun x y a b d H W Q ra rb tr e q => by
  cases a <;> cases b <;> first | (cases e; done) | skip
  cases e
  rw [ra.strI, rb.strI]
  exact ⟨_, _, rfl, rfl, q _ H (Same.refl _) (.bl _)⟩
theorem sr_notInS : SemR X (fun x y H Q => ∃ i j, x = .str i ∧ y = .str j ∧ Q (.bl (!(!(Builtin.Str.occurrences j i 0 j.length 1).isEmpty))) H) dNotInS := fun x y a b d H W Q ra rb tr e q => by
  cases a <;> cases b <;> first | (cases e; done) | skip
  cases e
  rw [ra.strI, rb.strI]
  exact ⟨_, _, rfl, rfl, q _ H (Same.refl _) (.bl _)⟩
def isN : D → Bool
  | .none => true
  | _ => false
def dIsN : D → D → Option D
  | a, .none => some (.bool (isN a))
  | _, _ => none
def dNotN : D → D → Option D
  | a, .none => some (.bool (!isN a))
  | _, _ => none
theorem non_iff {x : V} {a : D} {H : Hp} {W : Gh} (ra : RepB X.K (msk H W) H x a) : decide (x = .non) = isN a := by
  obtain ⟨sh, A, k, ra⟩ := ra
  cases ra with
  | pur h => cases h <;> simp [isN]
  | lst h r => simp [isN]
  | exn => cases k
theorem sr_isN : SemR X (fun x y H Q => y = .non ∧ Q (.bl (decide (x = .non))) H) dIsN := fun x y a b d H W Q ra rb tr e q => by
  cases b <;> first | (cases e; done) | skip
  cases e
  refine ⟨rb.nonI, ?_⟩
  rw [non_iff ra]
  exact q _ H (Same.refl _) (.bl _)
theorem sr_notN : SemR X (fun x y H Q => y = .non ∧ Q (.bl (!decide (x = .non))) H) dNotN := fun x y a b d H W Q ra rb tr e q => by
  cases b <;> first | (cases e; done) | skip
  cases e
  refine ⟨rb.nonI, ?_⟩
  rw [non_iff ra]
  exact q _ H (Same.refl _) (.bl _)

/-! subscripts -/
def dIx : D → D → Option D
  | .str z, .int i => if z.length ≤ sizeLine then (atI z.cps.toList i).map fun c => .str ⟨#[c]⟩ else none
  | .list ds, .int i => atI ds i
  | .tuple ds, .int i => atI ds i
  | _, _ => none
theorem RepAll.atI {K : PySem.W.Frag} {H : Hp} {vs : List V} {ds : List D} {i : Int} {d : D} (r : RepAll K H vs ds) (h : L2.atI ds i = some d) : ∃ v, L2.atI vs i = some v ∧ Rep K H v d := by
  unfold L2.atI at h ⊢
  obtain ⟨j, e1, e2⟩ := bind_some h
  obtain ⟨v, ev, rv⟩ := r.get e2
  exact ⟨v, by rw [r.len, e1]; exact ev, rv⟩
theorem sr_ix : SemR X (rIx X.K) dIx := fun x y a b d H W Q ra rb tr e q => by
  cases a <;> cases b <;> first | (cases e; done) | skip
  · have e : (if _ then _ else none) = some d := e
    split at e
    · rename_i hz
      obtain ⟨c, e1, rfl⟩ := Option.map_eq_some_iff.mp e
      rw [ra.strI, rb.intI]
      exact .inr (.inr ⟨_, _, c, rfl, rfl, hz, e1, q _ H (Same.refl _) (.str _)⟩)
    · cases e
  · obtain ⟨p, vs, rfl, h1, r⟩ := ra.lstI
    obtain ⟨v, e1, rv⟩ := r.atI e
    rw [rb.intI]
    exact .inl ⟨p, vs, _, v, rfl, rfl, .inl h1, e1, q _ H (Same.refl _) rv⟩
  · obtain ⟨p, vs, rfl, h1, r⟩ := ra.tupI
    obtain ⟨v, e1, rv⟩ := r.atI e
    rw [rb.intI]
    exact .inr (.inl ⟨p, vs, _, v, rfl, rfl, h1, e1, q _ H (Same.refl _) rv⟩)
theorem ce_ix {W : WX} {ms : Ms} {a b : Expr} {f g : Rho → R Opd} {pos : Pos} (ha : CO X W ms a f) (hb : CO X W ms b g) (hs : PlainIx b := by exact fun _ _ => rfl) : CE X W ms (.Subscript a b pos) (eBin dIx f g) :=
  (pe_ix ix_seq ha hb hs).weak fun _ _ _ h => bin_read sr_ix h

/-! calls -/
def cLen : List D → Option D
  | [.str z] => if z.length ≤ sizeLine then some (.int z.length) else none
  | [.list ds] => some (.int ds.length)
  | [.tuple ds] => some (.int ds.length)
  | _ => none
def rLenD (K : PySem.W.Frag) : List V → Hp → VK → Prop := fun xs H Q => (∃ z, xs = [.str z] ∧ z.length ≤ sizeLine ∧ Q (.int z.length) H) ∨ ∃ p ys, xs = [.ref p] ∧ (SqL K H p ys ∨ SqT K H p ys) ∧ Q (.int ys.length) H
theorem cr_len : CallR X (.builtin "len") (rLenD X.K) := call_len_str.or call_len_seq
theorem sc_len : SemC X (rLenD X.K) cLen := fun xs ds d H W Q rs tr e q => by
  cases rs with
  | nil => cases e
  | cons a b =>
    rename_i v vs x ds
    cases b with
    | cons _ _ => cases x <;> cases e
    | nil =>
      cases x <;> first | (cases e; done) | skip
      · obtain ⟨hz, rfl⟩ := ite_some e
        rw [a.strI]
        exact .inl ⟨_, rfl, hz, q _ H (Same.refl _) (.int _)⟩
      · cases e
        obtain ⟨p, ys, rfl, h1, r⟩ := a.lstI
        rw [← r.len] at q
        exact .inr ⟨p, ys, rfl, .inl (.inl h1), q _ H (Same.refl _) (.int _)⟩
      · cases e
        obtain ⟨p, ys, rfl, h1, r⟩ := a.tupI
        rw [← r.len] at q
        exact .inr ⟨p, ys, rfl, .inr h1, q _ H (Same.refl _) (.int _)⟩
def cInt : List D → Option D
  | [.int i] => some (.int i)
  | [.bool b] => some (.int (if b then 1 else 0))
  | [.str a] => match PySem.intText? a with
    | some n => if a.length ≤ 640 then some (.int n) else none
    | none => none
  | _ => none
def rIntD : List V → Hp → VK → Prop := fun xs H Q => ((∃ i, xs = [.int i] ∧ Q (.int i) H) ∨ ∃ k, xs = [.bl k] ∧ Q (.int (if k then 1 else 0)) H) ∨ ∃ a n, xs = [.str a] ∧ PySem.intText? a = some n ∧ a.length ≤ 640 ∧ Q (.int n) H
theorem cr_int : CallR X (.type "int") rIntD := call_int1.or call_int_str
theorem sc_int : SemC X rIntD cInt := fun xs ds d H W Q rs tr e q => by
  cases rs with
  | nil => cases e
  | cons a b =>
    rename_i v vs x ds
    cases b with
    | cons _ _ => cases x <;> cases e
    | nil =>
      cases x <;> first | (cases e; done) | skip
      · cases e
        rw [a.blI]
        exact .inl (.inr ⟨_, rfl, q _ H (Same.refl _) (.int _)⟩)
      · cases e
        rw [a.intI]
        exact .inl (.inl ⟨_, rfl, q _ H (Same.refl _) (.int _)⟩)
      · rename_i z
        have e : (match PySem.intText? z with
          | some n => if z.length ≤ 640 then some (PyData.int n) else none
          | none => none) = some d := e
        cases en : PySem.intText? z with
        | none => rw [en] at e; cases e
        | some n =>
          rw [en] at e
          obtain ⟨hz, rfl⟩ := ite_some e
          rw [a.strI]
          exact .inr ⟨_, n, rfl, en, hz, q _ H (Same.refl _) (.int _)⟩
def cOrd : List D → Option D
  | [.str z] => if z.length = 1 then some (.int (z.cps.getD 0 0 : Nat)) else none
  | _ => none
theorem sc_ord : SemC X (fun xs H Q => ∃ x, xs = [.str x] ∧ x.length = 1 ∧ Q (.int (x.cps.getD 0 0 : Nat)) H) cOrd := fun xs ds d H W Q rs tr e q => by
  cases rs with
  | nil => cases e
  | cons a b =>
    rename_i v vs x ds
    cases b with
    | cons _ _ => cases x <;> cases e
    | nil =>
      cases x <;> first | (cases e; done) | skip
      obtain ⟨hz, rfl⟩ := ite_some e
      rw [a.strI]
      exact ⟨_, rfl, hz, q _ H (Same.refl _) (.int _)⟩
def cStr : List D → Option D
  | [.int i] => if i.natAbs.log2 < 1920 then some (.str (toString i)) else none
  | _ => none
theorem sc_str : SemC X (fun xs H Q => ∃ i, xs = [.int i] ∧ i.natAbs.log2 < 1920 ∧ Q (.str (toString i)) H) cStr := fun xs ds d H W Q rs tr e q => by
  cases rs with
  | nil => cases e
  | cons a b =>
    rename_i v vs x ds
    cases b with
    | cons _ _ => cases x <;> cases e
    | nil =>
      cases x <;> first | (cases e; done) | skip
      obtain ⟨hz, rfl⟩ := ite_some e
      rw [a.intI]
      exact ⟨_, rfl, hz, q _ H (Same.refl _) (.str _)⟩
/-- a list of truth values -/
def bools : List D → Option (List Bool)
  | [] => some []
  | .bool b :: ds => (bools ds).map (b :: ·)
  | _ => none
theorem bools_eq : ∀ {ds : List D} {bs : List Bool}, bools ds = some bs → ds = bs.map .bool
  | [], bs, h => by cases h; rfl
  | .bool b :: ds, bs, h => by
    obtain ⟨cs, e, rfl⟩ := Option.map_eq_some_iff.mp h
    rw [bools_eq e]
    rfl
  | .none :: _, _, h => by cases h
  | .int _ :: _, _, h => by cases h
  | .str _ :: _, _, h => by cases h
  | .list _ :: _, _, h => by cases h
  | .tuple _ :: _, _, h => by cases h
  | .dict _ :: _, _, h => by cases h
def cAll : List D → Option D
  | [.list ds] => (bools ds).map fun bs => .bool (bs.all id)
  | _ => none
def cAny : List D → Option D
  | [.list ds] => (bools ds).map fun bs => .bool (bs.any id)
  | _ => none
theorem sc_all : SemC X (rAll X.K) cAll := fun xs ds d H W Q rs tr e q => by
  cases rs with
  | nil => cases e
  | cons a b =>
    rename_i v vs x ds
    cases b with
    | cons _ _ => cases x <;> cases e
    | nil =>
      cases x <;> first | (cases e; done) | skip
      obtain ⟨bs, eb, rfl⟩ := Option.map_eq_some_iff.mp e
      have := bools_eq eb
      subst this
      obtain ⟨p, ys, rfl, h1, r⟩ := a.lstI
      rw [r.bls] at h1
      exact ⟨p, bs, rfl, .inl h1, q _ H (Same.refl _) (.bl _)⟩
theorem sc_any : SemC X (rAny X.K) cAny := fun xs ds d H W Q rs tr e q => by
  cases rs with
  | nil => cases e
  | cons a b =>
    rename_i v vs x ds
    cases b with
    | cons _ _ => cases x <;> cases e
    | nil =>
      cases x <;> first | (cases e; done) | skip
      obtain ⟨bs, eb, rfl⟩ := Option.map_eq_some_iff.mp e
      have := bools_eq eb
      subst this
      obtain ⟨p, ys, rfl, h1, r⟩ := a.lstI
      rw [r.bls] at h1
      exact ⟨p, bs, rfl, .inl h1, q _ H (Same.refl _) (.bl _)⟩

/-! methods -/
def texts : List D → Option (List Str)
  | [] => some []
  | .str b :: ds => (texts ds).map (b :: ·)
  | _ => none
theorem texts_eq : ∀ {ds : List D} {bs : List Str}, texts ds = some bs → ds = bs.map .str
  | [], bs, h => by cases h; rfl
  | .str b :: ds, bs, h => by
    obtain ⟨cs, e, rfl⟩ := Option.map_eq_some_iff.mp h
    rw [texts_eq e]
    rfl
  | .none :: _, _, h => by cases h
  | .int _ :: _, _, h => by cases h
  | .bool _ :: _, _, h => by cases h
  | .list _ :: _, _, h => by cases h
  | .tuple _ :: _, _, h => by cases h
  | .dict _ :: _, _, h => by cases h
def mAppend : List D → List D → Option (List D × D) := fun cs ds => match ds with
  | [d] => if cs.length < sizeLine then some (cs ++ [d], .none) else none
  | _ => none
def mExtend : List D → List D → Option (List D × D) := fun cs ds => match ds with
  | [.list es] => if cs.length + es.length ≤ sizeLine then some (cs ++ es, .none) else none
  | _ => none
def mPop : List D → List D → Option (List D × D) := fun cs ds => match ds with
  | [] => (cs[cs.length - 1]?).map fun d => (cs.dropLast, d)
  | _ => none
def mReverse : List D → List D → Option (List D × D) := fun cs ds => match ds with
  | [] => some (cs.reverse, .none)
  | _ => none
theorem RepAll.dropLast {K : PySem.W.Frag} {H : Hp} {vs : List V} {ds : List D} (h : RepAll K H vs ds) : RepAll K H vs.dropLast ds.dropLast := by
  rw [List.dropLast_eq_take, List.dropLast_eq_take, h.len]
  exact h.take _
theorem sx_append : SemX X rAppend mAppend := fun a vs cs xs ds es d H W Q ha hW rc rx e q => by
  cases rx with
  | nil => cases e
  | cons r1 r2 =>
    cases r2 with
    | cons _ _ => cases e
    | nil =>
      have e : (if cs.length < sizeLine then some (cs ++ [_], PyData.none) else none) = some (es, d) := e
      obtain ⟨hz, e⟩ := ite_some e
      cases e
      rw [← rc.len] at hz
      exact ⟨a, vs, _, rfl, rfl, ha, hz, q _ _ (rc.append (.cons r1 .nil)) .non⟩
def rExtendD : V → List V → Hp → VK → Prop := fun x vs H Q => ∃ l b xs zs, x = .ref l ∧ vs = [.ref b] ∧ H l = some (.lst xs) ∧ Rd H b (.lst zs) ∧ xs.length + zs.length ≤ sizeLine ∧ Q .non (upd H l (.lst (xs ++ zs)))
theorem mt_extendD : MtR X "list.extend" rExtendD := by
  intro pins s σ H x vs v us Q I rx rv h
  obtain ⟨l, b, xs, zs, rfl, rfl, hH, hB, hz, q⟩ := h
  cases rx
  obtain ⟨u, rfl, ru⟩ := rv.one
  cases ru
  obtain ⟨z, its, n, r, hl, e⟩ := I.lstM hH
  obtain ⟨z2, its2, n2, r2, e2⟩ := hB.ok I.hok
  have hl2 := r2.length
  have hsz : its.toArray.size + its2.toArray.size ≤ sizeLine := by rw [List.size_toArray, List.size_toArray]; omega
  have hlong : ¬ (!its.toArray.isEmpty && Builtin.List.listTooLong (its.toArray.size + its2.toArray.size)) = true := by
    rw [notLongL hsz, Bool.and_false]
    exact Bool.false_ne_true
  refine call_meets F.slot_list_extend ⟨_, e, rfl⟩ F.entry_list_extend (F.args_list_extend_2 _ _)
    (AutoSeq1.list_extend_list_list_0 l its.toArray n b its2.toArray n2 hlong (by rw [List.size_toArray]; omega) (by omega)) ⟨e, e2, ?_⟩
  refine ⟨.non, _, I.lset (its' := its ++ its2) hH e (by simp) (r.append r2) ?_, rfl, q⟩
  rw [List.length_append]
  omega
theorem sx_extend : SemX X rExtendD mExtend := fun a vs cs xs ds es d H W Q ha hW rc rx e q => by
  cases rx with
  | nil => cases e
  | cons r1 r2 =>
    rename_i x xs' y ds'
    cases r2 with
    | cons _ _ => cases y <;> cases e
    | nil =>
      cases y <;> first | (cases e; done) | skip
      rename_i fs
      have e : (if cs.length + fs.length ≤ sizeLine then some (cs ++ fs, PyData.none) else none) = some (es, d) := e
      obtain ⟨hz, e⟩ := ite_some e
      cases e
      obtain ⟨b, zs, rfl, hb, rz⟩ := r1.lstI
      rw [← rc.len, ← rz.len] at hz
      exact ⟨a, b, vs, zs, rfl, rfl, ha, DL.Same.rd msk_sub hb, hz, q _ _ (rc.append rz) .non⟩
theorem sx_pop : SemX X rPop mPop := fun a vs cs xs ds es d H W Q ha hW rc rx e q => by
  cases rx with
  | cons _ _ => cases e
  | nil =>
    obtain ⟨y, ey, e⟩ := Option.map_eq_some_iff.mp e
    cases e
    obtain ⟨v, ev, rv⟩ := rc.get ey
    rw [← rc.len] at ev
    exact ⟨a, vs, v, rfl, rfl, ha, ev, q _ _ rc.dropLast rv⟩
theorem sx_reverse : SemX X rReverse mReverse := fun a vs cs xs ds es d H W Q ha hW rc rx e q => by
  cases rx with
  | cons _ _ => cases e
  | nil =>
    cases e
    exact ⟨a, vs, rfl, rfl, ha, q _ _ rc.reverse .non⟩
def mJoin : D → List D → Option D := fun c ds => match c, ds with
  | .str a, [.list es] => (texts es).bind fun ys => if (ys.map (·.length)).sum + ys.length * a.length ≤ 16777216 then some (.str (Txt.join a ys)) else none
  | .str a, [.tuple es] => (texts es).bind fun ys => if (ys.map (·.length)).sum + ys.length * a.length ≤ 16777216 then some (.str (Txt.join a ys)) else none
  | _, _ => none
theorem sm_join : SemM X (fun x xs H Q => ∃ a p, ∃ ys : List Str, x = .str a ∧ xs = [.ref p] ∧ (SqL X.K H p (ys.map V.str) ∨ SqT X.K H p (ys.map V.str)) ∧ (ys.map (·.length)).sum + ys.length * a.length ≤ 16777216 ∧ Q (.str (Txt.join a ys)) H) mJoin := fun x c xs ds d H W Q rc rx tr e q => by
  cases c <;> first | (cases e; done) | skip
  rename_i a
  cases rx with
  | nil => cases e
  | cons r1 r2 =>
    rename_i v vs y ds'
    cases r2 with
    | cons _ _ => cases y <;> cases e
    | nil =>
      cases y <;> first | (cases e; done) | skip
      · rename_i es
        have e : ((texts es).bind fun ys => if (ys.map (·.length)).sum + ys.length * a.length ≤ 16777216 then some (PyData.str (Txt.join a ys)) else none) = some d := e
        obtain ⟨ys, ey, e⟩ := bind_some e
        obtain ⟨hz, rfl⟩ := ite_some e
        have := texts_eq ey
        subst this
        obtain ⟨p, zs, rfl, h1, r⟩ := r1.lstI
        rw [r.strs] at h1
        rw [rc.strI]
        exact ⟨a, p, ys, rfl, rfl, .inl (.inl h1), hz, q _ H (Same.refl _) (.str _)⟩
      · rename_i es
        have e : ((texts es).bind fun ys => if (ys.map (·.length)).sum + ys.length * a.length ≤ 16777216 then some (PyData.str (Txt.join a ys)) else none) = some d := e
        obtain ⟨ys, ey, e⟩ := bind_some e
        obtain ⟨hz, rfl⟩ := ite_some e
        have := texts_eq ey
        subst this
        obtain ⟨p, zs, rfl, h1, r⟩ := r1.tupI
        rw [r.strs] at h1
        rw [rc.strI]
        exact ⟨a, p, ys, rfl, rfl, .inr h1, hz, q _ H (Same.refl _) (.str _)⟩
def mSplit : D → List D → Option (List D) := fun c ds => match c, ds with
  | .str a, [.str b] => if (b.length == 0) = false ∧ a.length + 2 ≤ sizeLine then some ((Txt.split a b).map .str) else none
  | _, _ => none
theorem repStrs {K : PySem.W.Frag} {H : Hp} : ∀ (ns : List Str), RepAll K H (ns.map V.str) (ns.map PyData.str)
  | [] => .nil
  | n :: ns => .cons (.str n) (repStrs ns)
theorem sm_split : SemML X (fun x xs H Q => ∃ a b, x = .str a ∧ xs = [.str b] ∧ (b.length == 0) = false ∧ a.length + 2 ≤ sizeLine ∧ rNewStrs (Txt.split a b) H Q) mSplit := fun x c xs ds es H W Q rc rx tr e q => by
  cases c <;> first | (cases e; done) | skip
  rename_i a
  cases rx with
  | nil => cases e
  | cons r1 r2 =>
    rename_i v vs y ds'
    cases r2 with
    | cons _ _ => cases y <;> cases e
    | nil =>
      cases y <;> first | (cases e; done) | skip
      rename_i b
      have e : (if (b.length == 0) = false ∧ a.length + 2 ≤ sizeLine then some ((Txt.split a b).map PyData.str) else none) = some es := e
      obtain ⟨⟨h1, h2⟩, rfl⟩ := ite_some e
      rw [rc.strI, r1.strI]
      exact ⟨a, b, rfl, rfl, h1, h2, fun p hp => q _ H p (Same.refl _) hp (repStrs _)⟩

/-! repr -/
def cRepr : List D → Option D
  | [d] => if (d.showable && !d.hasDict && decide (d.depth ≤ 60) && decide (d.shown.length ≤ sizeLine)) = true then some (.str d.shown) else none
  | _ => none
theorem cr_repr (hgd : X.A.guards = some []) (hu : X.A.units + 64 < cLine) : CallR X (.builtin "repr") (fun xs H Q => ∃ x d, xs = [x] ∧ Dp X.K H x d ∧ (d.showable && !d.hasDict && decide (d.depth ≤ 60) && decide (d.shown.length ≤ sizeLine)) = true ∧ Q (.str d.shown) H) := by
  intro pins s σ H xs us Q I r h
  obtain ⟨x, d, rfl, hd, hz, q⟩ := h
  obtain ⟨u, rfl, ru⟩ := vals1 r
  simp only [Bool.and_eq_true, Bool.not_eq_true', decide_eq_true_eq] at hz
  obtain ⟨⟨⟨h1, h2⟩, h3⟩, h4⟩ := hz
  have fin : ∀ (t : Tok) (k : Nat), EP X pins σ Q (.str d.shown t) { s with toks := k } := fun t k => ⟨.str d.shown, H, I.tok k, ⟨t, rfl⟩, q⟩
  cases hd with
  | non => cases ru; exact PySem.P.repr_of_none (fin _ _)
  | bl b => cases ru; exact PySem.P.repr_of_bool (fin _ _)
  | int i =>
    obtain ⟨t, rfl⟩ := ru
    have h1 : decide (i.natAbs.log2 < 1920) = true := h1
    exact PySem.P.repr_of_int (of_decide_eq_true h1) (fin _ _)
  | str z =>
    obtain ⟨t, rfl⟩ := ru
    exact PySem.P.repr_of_str (fin _ _) h4
  | lst hs ha =>
    have hd : Dp X.K H _ _ := .lst hs ha
    cases ru
    obtain ⟨as, rd⟩ := Dp.reads I _ _ _ hd rfl
    exact repr_of_reads' rd h1 (PyData.noDict_hsm h2) hgd (by omega) (fun _ _ e => e) (fun h' u tk hk => ⟨.str _, H, I.kept (t' := tk) hk, ⟨u, rfl⟩, q⟩) h4
  | tup hs ha =>
    have hd : Dp X.K H _ _ := .tup hs ha
    cases ru
    obtain ⟨as, rd⟩ := Dp.reads I _ _ _ hd rfl
    exact repr_of_reads' rd h1 (PyData.noDict_hsm h2) hgd (by omega) (fun _ _ e => e) (fun h' u tk hk => ⟨.str _, H, I.kept (t' := tk) hk, ⟨u, rfl⟩, q⟩) h4
theorem sc_repr : SemC X (fun xs H Q => ∃ x d, xs = [x] ∧ Dp X.K H x d ∧ (d.showable && !d.hasDict && decide (d.depth ≤ 60) && decide (d.shown.length ≤ sizeLine)) = true ∧ Q (.str d.shown) H) cRepr := fun xs ds d H W Q rs tr e q => by
  cases rs with
  | nil => cases e
  | cons a b =>
    cases b with
    | cons _ _ => cases e
    | nil =>
      obtain ⟨hz, rfl⟩ := ite_some e
      exact ⟨_, _, rfl, a.rep.dp, hz, q _ H (Same.refl _) (.str _)⟩
end
end DL
end

section
set_option maxHeartbeats 1000000
namespace DL
open PySem PySem.Spec PyProof.Rows L2

/-! ## the end of a law -/
def isLst (o : Obj) : Bool := match o.cls with
  | .type n => n == "list"
  | _ => false
/-- no list stands in the written part -/
def nolst (K : PySem.W.Frag) : Bool := K.all fun p => !isLst p.2
theorem nolst_at {K : PySem.W.Frag} {h : Heap} {a : Addr} {vs : List Value} {m : Nat} (X : K.In h) (n : nolst K = true) (ha : h.get? a = some { cls := .type "list", data := .seq vs.toArray m }) : K.lookup a = none := by
  cases e : K.lookup a with
  | none => rfl
  | some o =>
    have h1 := X a o e
    rw [ha] at h1
    have e2 : o = { cls := .type "list", data := .seq vs.toArray m } := (Option.some.inj h1).symm
    have mem : ∀ {l : List (Addr × Obj)}, l.lookup a = some o → (a, o) ∈ l := fun {l} => by
      induction l with
      | nil => intro z; cases z
      | cons p r ih =>
        intro z
        obtain ⟨b, u⟩ := p
        have z2 : (match a == b with | true => some u | false => r.lookup a) = some o := z
        cases q : (a == b) with
        | true =>
          rw [q] at z2
          have : u = o := Option.some.inj z2
          rw [beq_iff_eq.mp q, this]
          exact List.mem_cons_self
        | false =>
          rw [q] at z2
          exact List.mem_cons_of_mem _ (ih z2)
    have h2 := List.all_eq_true.mp n (a, o) (mem e)
    rw [e2] at h2
    simp [isLst] at h2
theorem law_callG {P : Program} {w : World} {K : PySem.W.Frag} {mg mb : Str → Option Value} {k : Nat} {fa a : Addr} {fd : FuncData} {x : Str} {pm : Ms} {F : FS} {s₁ : Shared} {vs : List Value} {ns : List Int}
    (KX : K.In s₁.heap) (hns : s₁.heap.Ns mainGlobals mg) (hb : s₁.heap.Ns builtinsNs mb) (hbb : ∀ x : Str, x ≠ "__name__" → mb x = bootBuiltins x) (hlim : s₁.heap.NoLimit) (hg : s₁.gens = #[])
    (ha : s₁.heap.get? a = some { cls := .type "list", data := .seq vs.toArray }) (hi : IntsAre vs ns) (hl : ns.length ≤ sizeLine) (hr : Room k callerA) (nl : nolst K = true)
    (FN : ∀ base : Heap, K.In base → base.Ns mainGlobals mg → FnG P w K mg base k fa fd [x] (spF K mg pm .pur 1 F)) (hbind : ∀ (s : Shared) (u : Value), BindsTo s fd ⟨[u], []⟩ [(x, u)]) (hpm : (pm 0).sh = .pur)
    (hF : ∃ ro, F [.list (ns.map .int)] = .ok (.bool true) ro) :
    codeAny (model P w) callerA (.call (.ref fa) ⟨[.ref a], []⟩) (fun r s' => r = .ok (.ret (.bool true)) ∧ OldK s₁.heap s'.heap ∧ s'.os = s₁.os ∧ AllBare s'.gens) s₁ := by
  have rv := vals_ints hi
  have lenV := hi.length
  have hk : K.lookup a = none := nolst_at KX nl ha
  obtain ⟨H, hHdef⟩ : ∃ H : Hp, H = fun b => if b = a then some (.frz { cls := .type "list", data := .seq vs.toArray } (.lst (ns.map V.int))) else none := ⟨_, rfl⟩
  have hHa : H a = some (.frz { cls := .type "list", data := .seq vs.toArray } (.lst (ns.map V.int))) := by rw [hHdef]; exact if_pos rfl
  have hHn : ∀ b, b ≠ a → H b = none := fun b hb => by rw [hHdef]; exact if_neg hb
  have hok : HOk P w H s₁.heap := fun b u z => by
    by_cases hb : b = a
    · subst hb
      rw [hHa] at z
      cases z
      exact ⟨ha, by rw [List.length_map]; exact hl, vs, _, rv, ha⟩
    · rw [hHn b hb] at z; cases z
  have hA : ∀ b, H b ≠ none → b = a := fun b z => by
    by_cases hb : b = a
    · exact hb
    · exact absurd (hHn b hb) z
  have base_of : ∀ {b : Addr} {o : Obj}, s₁.heap.get? b = some o → H b = none → (hidT s₁.heap H).get? b = some o := fun e n => hidT_get e n
  have noA : ∀ {b : Addr} {o : Obj} {es : Array DictEntry} {ep : Nat}, s₁.heap.get? b = some o → o.data = .dict es ep → H b = none := fun {b o es ep} e d => by
    cases q : H b with
    | none => rfl
    | some u =>
      have e' : b = a := hA b (by rw [q]; simp)
      subst e'
      rw [ha] at e; cases e
      have d' : Data.seq vs.toArray _ = Data.dict es ep := d
      cases d'
  have nsK : ∀ {b : Addr} {m : Str → Option Value}, s₁.heap.Ns b m → (hidT s₁.heap H).Ns b m := fun {b m} ⟨o, es, ep, e, d, r⟩ => ⟨o, es, ep, base_of e (noA e d), d, r⟩
  have hKb : K.In (hidT s₁.heap H) := fun b o e => base_of (KX b o e) (by
    cases q : H b with
    | none => rfl
    | some u =>
      have e' : b = a := hA b (by rw [q]; simp)
      subst e'
      rw [hk] at e; cases e)
  have hM : Mod K mg (hidT s₁.heap H) := ⟨hKb, nsK hns, ⟨mb, nsK hb, hbb⟩, let ⟨mc, h1, h2⟩ := hlim; ⟨mc, nsK h1, h2⟩⟩
  have e0 : Env0 P w K mg (hidT s₁.heap H) callerA [] s₁ H := ⟨rfl, hM, fun b o e => of_hidT e, Nat.le_of_eq (hidT_size _ _), trivial, fun b hb => absurd (show b ∈ ([] : List Addr) from hb) (by simp), hok, .of_eq hg⟩
  have hsp : spF K mg pm .pur 1 F [.ref a] H (fun v _ => v = .bl true) fun _ _ _ => False := by
    obtain ⟨ro, eF⟩ := hF
    have nOw : ∀ b, ¬ Ow (fun _ => []) (fun _ => False) b := fun b z => by
      rcases z with z | ⟨i, z⟩
      · exact z
      · cases z
    refine ⟨[.list (ns.map .int)], fun _ => [], fun _ => False, rfl, rfl, ⟨rfl, fun i d e => ?_, fun _ _ => rfl, fun _ z => z.elim, fun _ _ _ z => (by cases z), fun _ _ z => (by cases z)⟩, ?_⟩
    · cases i with
      | zero =>
        cases e
        refine ⟨_, rfl, ?_⟩
        rw [hpm]
        exact .pur (.lst (.inr ⟨_, msk_mk (nOw a) hHa⟩) (repInts ns))
      | succ i => simp at e
    · rw [eF]
      intro v H' O' A _ _ _ rp
      exact rp.purI.2.blI
  refine codeAny_mono ((FN _ hKb (nsK hns)).run callerA [] s₁ H ⟨[.ref a], []⟩ [.ref a] [.ref a] _ _ hr rfl e0 (hbind s₁ (.ref a)) (.cons rfl .nil) hsp) fun r s' h => ?_
  cases r with
  | error e =>
    obtain ⟨_, _, _, _, _, _, _, _, _, _, _, _, z⟩ := h
    exact z.elim
  | ok fl =>
    cases fl with
    | next => exact False.elim h
    | brk => exact False.elim h
    | cont => exact False.elim h
    | ret u =>
      obtain ⟨v, H', os, bare, un, hok', r', q⟩ := h
      have q' : v = .bl true := q
      subst q'
      obtain rfl : u = Value.bool true := r'
      refine ⟨rfl, OldK.of_keep fun b o e => ?_, os, bare⟩
      by_cases hb : b = a
      · subst hb
        have z2 := un.frzs b _ _ hHa
        obtain ⟨e2, _⟩ := hok' b _ z2
        rw [ha] at e
        cases e
        exact e2
      · exact un.keep b o e (hHn b hb) (by intro z; exact absurd (show b ∈ ([] : List Addr) from z) (by simp)) (by simp)
theorem walk_ofG {l : PySem.W.OpenLaw} {n k : Nat} {q : Program} {loose : List Str} {XP : (Str → Option Value) → Heap → Prop} {YP : World → Heap → Prop} {d : DefRec} {x : Str} {pm : Ms} {F : FS}
    (hn : l.most = some n) (hn2 : n ≤ sizeLine) (hdf : d.params.defaults = []) (hr : Room k callerA) (hpm : (pm 0).sh = .pur)
    (FF : ∀ (w : World) (mg : Str → Option Value) (fa : Addr) (h : Heap), YP w h → h.Ns mainGlobals mg → mg d.name = some (.ref fa) →
      ∃ (K : PySem.W.Frag) (fd : FuncData), K.In h ∧ nolst K = true ∧ (∀ (s : Shared) (u : Value), BindsTo s fd ⟨[u], []⟩ [(x, u)]) ∧
        ∀ base : Heap, K.In base → base.Ns mainGlobals mg → FnG l.prog w K mg base k fa fd [x] (spF K mg pm .pur 1 F))
    (hF : ∀ ns : List Int, ns.length ≤ n → ∃ ro, F [.list (ns.map .int)] = .ok (.bool true) ro) :
    PySem.W.WalkO q loose XP YP l.row.toRowW d [] (fun f vs => PySem.call f vs) := by
  refine Att.attach_call hn hdf fun w s₀ s₁ mg mb fa o pm cd doc a vs ns G Y ho hd hcd hmg hobj hints hlen hg => ?_
  obtain ⟨K, fd, KX, nl, hb, hFN⟩ := FF w mg fa _ Y G.T.g hmg
  exact law_callG KX G.T.g G.T.b G.T.builtins G.T.nolimit hg hobj hints (Nat.le_trans hlen hn2) hr nl hFN hb hpm (hF ns hlen)

/-! ## the head's facts -/
abbrev AlX : Type := He.AlD × Bool
def obsX (fa : List He.Fa) (fn : List He.DefD) (xs : List (PySem.W.Frag → Bool)) (K : PySem.W.Frag) : AlX := (He.obsD fa fn K, xs.all fun x => x K)
def valX (fn : List He.DefD) : AlX := (He.valD fn, true)
structure SaysX (fa : List He.Fa) (fn : List He.DefD) (xs : List (PySem.W.Frag → Bool)) (K : PySem.W.Frag) : Prop where
  d : He.SaysD fa fn K
  x : ∀ x ∈ xs, x K = true
theorem saysX_of {fa : List He.Fa} {fn : List He.DefD} {xs : List (PySem.W.Frag → Bool)} {K : PySem.W.Frag} (h : obsX fa fn xs K = valX fn) : SaysX fa fn xs K :=
  ⟨congrArg (fun z : AlX => z.1) h, fun x hx => List.all_eq_true.mp (congrArg (fun z : AlX => z.2) h) x hx⟩
def obsXG (n : Nat) (fa : List He.Fa) (fn : List He.DefD) (xs : List (PySem.W.Frag → Bool)) (g : Addr → Option Obj) : AlX := obsX fa fn xs (He.frG g (He.asD g n))
def hookX (n : Nat) (fa : List He.Fa) (fn : List He.DefD) (xs : List (PySem.W.Frag → Bool)) : PySem.W.Hook where
  α := AlX
  obs := fun s => obsXG n fa fn xs s.heap.get?
  val := fun _ => valX fn
  says := fun _ h => ∃ K : PySem.W.Frag, K.In h ∧ SaysX fa fn xs K
  of := fun _ _ e => ⟨_, He.frG_in, saysX_of e⟩
  keeps := fun _ _ _ ⟨K, hK, c⟩ k => ⟨K, PySem.W.Frag.In.keeps hK k, c⟩
theorem obsXG_eq {n : Nat} {fa : List He.Fa} {fn : List He.DefD} {xs : List (PySem.W.Frag → Bool)} {g : Addr → Option Obj} {s : Shared} (h : ∀ a, g a = s.heap.get? a) : obsXG n fa fn xs g = (hookX n fa fn xs).obs s := by
  have e : g = s.heap.get? := funext h
  rw [e] <;> rfl
/-- how a def's arguments bind: it has no defaults -/
theorem binds_of {K : PySem.W.Frag} {x qual : Str} {params : Arguments} {body : List Stmt} {scope : Scope} {f : Addr} {fd : FuncData} {ps : List Str} (F : FunD K x qual params body scope [] [] f fd)
    (h : ∀ (kV doc pm : Value) (an : Option Addr) (cdv ct : Value) (us : List Value), us.length = ps.length → bindArgs (PySem.W.fnOf x qual params body scope .none kV doc pm an cdv ct) ⟨us, []⟩ = pure (ps.zip us)) : Binds K fd ps [] := F.bindsN h
end DL
end

section
set_option maxHeartbeats 1000000
namespace DL
open PySem PySem.Spec PyProof.Rows L2
/-- the def x of the module keeps its promise -/
def Ok (P : Program) (w : World) (K : PySem.W.Frag) (mg : Str → Option Value) (base : Heap) (k : Nat) (x : Str) (ps : List Str) (pm : Ms) (rs : Shp) (n : Nat) (F : FS) : Prop :=
  ∃ fd, mg x = some (.ref (He.ga K x)) ∧ PySem.W.keepIn K (.ref (He.ga K x)) = true ∧ Binds K fd ps [] ∧ FnG P w K mg base k (He.ga K x) fd ps (spF K mg pm rs n F)
/-- where a def of the module stands -/
def At (K : PySem.W.Frag) (mg : Str → Option Value) (x : Str) (st : Stmt) : Prop := mg x = some (.ref (He.ga K x)) ∧ ∃ fd, FunD K x x (defArgs st) (defBody st) (defScope st) [] [] (He.ga K x) fd
theorem ok_of {P : Program} {w : World} {K : PySem.W.Frag} {mg : Str → Option Value} {base : Heap} {k : Nat} {x : Str} {st : Stmt} {N ps : List Str} {pm ms : Ms} {rs : Shp} {n m : Nat} {g : Rho → SR} (a : At K mg x st) (S : FnScope N ps (defScope st))
    (hbind : ∀ (kV doc pm : Value) (an : Option Addr) (cdv ct : Value) (us : List Value), us.length = ps.length → bindArgs (PySem.W.fnOf x x (defArgs st) (defBody st) (defScope st) .none kV doc pm an cdv ct) ⟨us, []⟩ = pure (ps.zip us))
    (hn : ps.length = n) (hm : N.length - n = m) (hms : ∀ i, i < n → ms i = pm i) (hrn : rs = .pur ∨ ∀ (ds : List D) (r : Rho), g (ds.map some ++ List.replicate m none) ≠ .nx r)
    (hb : ∀ (cdv : Value) (A : Around) (outer : List Env) (s : Shared) (H : Hp) (E : XK), Room k (A.deeper (envOfC x (defScope st) s.heap.objs.size (He.ga K x) cdv)) → (A.deeper (envOfC x (defScope st) s.heap.objs.size (He.ga K x) cdv)).guards = some [] →
      Takes (cxOf (L2.CX P w) P w K mg base N x (defScope st) (He.ga K x) cdv A outer s H E) (fun cls d _ H' => E cls d H') → CSs (cxOf (L2.CX P w) P w K mg base N x (defScope st) (He.ga K x) cdv A outer s H E) (fun cls d _ H' => E cls d H') ms rs (defBody st) g) :
    Ok P w K mg base (k + 1) x ps pm rs n (bodyF pm n m g) := by
  obtain ⟨hx, fd, F⟩ := a
  exact ⟨fd, hx, F.kp, binds_of F hbind, fnG_body F S hn hm hms hrn hb⟩
section
variable {X : Cx} {W : WX} {ms pm : Ms} {rs : Shp} {k j n : Nat} {ps : List Str} {F : FS} {x : Str} {p pos : Pos} {e : Expr} {es : List Expr} {as : List Arg} {tg : Expr}
theorem ceo_call (h : Ok X.prog X.w X.K X.mg X.base j x ps pm rs n F) (hr : Room k X.A) (hgd : X.A.guards = some []) (tk : Takes X W) (hj : j ≤ k) (ha : CA X W ms (e :: es) (argsR as)) (ok : okArgs ms pm as = true := by rfl) (hn : as.length = n := by rfl)
    (hg : Gl X x := by rfl) (hdb : (x == ("__debug__" : Str)) = false := by decide) (he : starEach (e :: es) X.env = (false, eval e X.env) :: starEach es X.env := by rfl) (hpl : (backTo pos (starEach es X.env)).any (·.1) = false := by rfl) :
    CEo X W ms rs (.Call (.Name x p) (e :: es) [] pos) (eFn F as) := by
  obtain ⟨fd, h1, h2, h3, h4⟩ := h
  exact ceo_fn h4 (hr.mono hj) hgd tk h1 h2 h3 ha ok hn hg hdb he hpl
theorem ce_call (h : Ok X.prog X.w X.K X.mg X.base j x ps pm rs n F) (hr : Room k X.A) (hgd : X.A.guards = some []) (tk : Takes X W) (hj : j ≤ k) (ha : CA X W ms (e :: es) (argsR as)) (ok : okArgs ms pm as = true := by rfl) (hn : as.length = n := by rfl)
    (hg : Gl X x := by rfl) (hdb : (x == ("__debug__" : Str)) = false := by decide) (he : starEach (e :: es) X.env = (false, eval e X.env) :: starEach es X.env := by rfl) (hpl : (backTo pos (starEach es X.env)).any (·.1) = false := by rfl) (hrs : Shp.ok rs = true := by rfl) :
    CE X W ms (.Call (.Name x p) (e :: es) [] pos) (eFn F as) := ce_own (ceo_call h hr hgd tk hj ha ok hn hg hdb he hpl) hrs
theorem takesW0 {X : Cx} : Takes X W0 := fun _ _ x => by
  obtain ⟨_, _, _, _, _, _, _, _, _, _, _, _, _, _, _, _, z⟩ := x
  exact z.elim
/-- any pure thing that is walked -/
def iAny (f : Rho → R D) : Rho → R (List D) := fun r => (f r).bind fun d r1 => match d with
  | .list ds => .ok ds r1
  | .tuple ds => .ok ds r1
  | .str z => .ok (z.cps.toList.map sgn) r1
  | _ => .bad
theorem ci_any {f : Rho → R D} (h : CE X W ms e f) : CI X W ms tg e (iAny f) :=
  ⟨fun pins s σ H Z I ⟨r, O, G, R, q⟩ => by
    unfold iAny at q
    cases hf : f r with
    | bad => rw [hf] at q; exact False.elim q
    | exc c x r1 => exact (ci_list h).run pins s σ H Z I ⟨r, O, G, R, by unfold iLst; rw [hf] at q ⊢; exact q⟩
    | ok d r1 =>
      rw [hf] at q
      cases d with
      | list ds => exact (ci_list h).run pins s σ H Z I ⟨r, O, G, R, by unfold iLst; rw [hf]; exact q⟩
      | tuple ds => exact (ci_tup h).run pins s σ H Z I ⟨r, O, G, R, by unfold iTup; rw [hf]; exact q⟩
      | str z => exact (ci_str h).run pins s σ H Z I ⟨r, O, G, R, by unfold iStr; rw [hf]; exact q⟩
      | _ => exact False.elim q⟩
/-- - a -/
def eNeg (f : Rho → R D) : Rho → R D := fun r => (f r).bind fun d r1 => match d with
  | .int i => .ok (.int (-i)) r1
  | _ => .bad
theorem ce_neg {f : Rho → R D} (h : CE X W ms e f) : CE X W ms (.UnaryOp .USub e pos) (eNeg f) :=
  (pe_un un_neg h).weak fun σ H Q ⟨r, O, G, R, h⟩ => by
    unfold eNeg at h
    rw [on_bind] at h
    refine tE_step R h fun d r1 v H1 O1 h1 R1 E1 p1 => ?_
    cases d with
    | int i => exact ⟨i, p1.intI, h1 _ H1 O1 R1 E1 (.int _)⟩
    | _ => exact False.elim h1
theorem PIp.or {op : Operator} {t t' : TIp} (h : PIp X op t) (h' : PIp X op t') : PIp X op (fun x y H Q => t x y H Q ∨ t' x y H Q) := by
  intro pins s σ H x y v u Q I r1 r2 q
  rcases q with q | q
  · exact h pins s σ H x y v u Q I r1 r2 q
  · exact h' pins s σ H x y v u Q I r1 r2 q
def tiAdd : TIp := fun x y H Q => ipI (fun i j => i + j) x y H Q ∨ ∃ i j, x = .str i ∧ y = .str j ∧ i.length + j.length ≤ sizeLine ∧ Q (.str (i ++ j)) H
theorem ip_addD : PIp X .Add tiAdd := DL.PIp.or ip_add (fun pins s σ H x y v u Q I r1 r2 q => iop_add_str pins s σ H x y v u Q I r1 r2 q)
theorem si_add : SemI X tiAdd dAdd := fun x y a b d H W Q ra rb tr e q => by
  cases a <;> cases b <;> first | (cases e; done) | skip
  · cases e
    rw [ra.intI, rb.intI]
    exact .inl ⟨_, _, rfl, rfl, q _ H (Same.refl _) (.int _)⟩
  · obtain ⟨hz, rfl⟩ := ite_some e
    rw [ra.strI, rb.strI]
    exact .inr ⟨_, _, rfl, rfl, hz, q _ H (Same.refl _) (.str _)⟩
end
theorem msOf_app {l1 l2 : List Md} {n : Nat} (h : l1.length = n) : ∀ i, i < n → msOf (l1 ++ l2) i = msOf l1 i := fun i hi => by
  unfold msOf
  rw [List.getD_eq_getElem?_getD, List.getD_eq_getElem?_getD, List.getElem?_append_left (by omega)]
section
variable {X : Cx} {W : WX} {ms : Ms} {a b c : Expr} {f g k : Rho → R Opd} {pos : Pos}
/-- a truth value -/
def tBool (f : Rho → R D) : Rho → R Bool := fun r => (f r).bind fun d r1 => match d with
  | .bool b => .ok b r1
  | _ => .bad
theorem ct_bool {e : Expr} {t : TE} {u : Rho → R D} (h : PT X e (tTest t)) (hr : ∀ {σ H Q}, tE X W ms u σ H Q → t σ H Q) : CT X W ms e (tBool u) :=
  h.weak fun σ H Q ⟨r, O, G, R, q⟩ => by
    unfold tBool at q
    rw [on_bind] at q
    refine hr (tE_step R q fun d r1 v H1 O1 h1 R1 E1 p1 => ?_)
    cases d with
    | bool b => exact ⟨b, p1.blI, h1 H1 O1 R1 E1⟩
    | _ => exact False.elim h1
theorem ct_cmp {op : CmpOp} {r : R2} {sem : D → D → Option D} (ho : OpR X (compareOp op) r) (hs : SemR X r sem) (hm : behindInMarks op b = false) (ha : CO X W ms a f) (hb : CO X W ms b g) : CT X W ms (.Compare a [op] [b] pos) (tBool (eBin sem f g)) :=
  ct_bool (pt_cmpR ho ha hb hm) fun h => bin_read hs h
theorem chain_read {r r' : R2} {sem sem' : D → D → Option D} (hs : SemR X r sem) (hs' : SemR X r' sem') {σ : L2.St} {H : Hp} {Q : VK} (h : tE X W ms (eChain sem sem' f g k) σ H Q) : tChain r r' (tO X W ms f) (tO X W ms g) (tO X W ms k) σ H Q := by
  obtain ⟨ρ, O, G, R, h⟩ := h
  unfold eChain at h
  rw [on_bind] at h
  refine tO_step R h fun a1 r1 v1 H1 O1 h1 R1 E1 p1 => ?_
  rw [on_bind] at h1
  refine tO_step R1 (bxm E1 h1) fun a2 r2 v2 H2 O2 h2 R2 E2 p2 => ?_
  cases e : (a1.get r2).bind fun x => (a2.get r2).bind fun y => sem x y with
  | none => rw [e] at h2; exact False.elim h2
  | some d =>
    rw [e] at h2
    obtain ⟨x, ex, e⟩ := bind_some e
    obtain ⟨y, ey, e⟩ := bind_some e
    cases d with
    | bool t =>
      refine hs v1 v2 x y _ H2 (Ow O2 G) _ ((p1.mono E2.sm).get R2 ex) (p2.get R2 ey) R2.trO e fun v H3 sm rp => ?_
      have R3 := R2.same sm
      have E3 : Ext H2 O2 G H3 O2 G := .same sm R2.tr
      refine ⟨t, rp.blI, ?_⟩
      cases t with
      | true =>
        simp only at h2
        rw [on_bind] at h2
        rw [if_pos rfl]
        refine tO_step R3 (bxm (E1.trans (E2.trans E3)) (by simpa using h2)) fun a4 r4 v4 H4 O4 h4 R4 E4 p4 => ?_
        obtain ⟨d, e, h4⟩ := on_ofO h4
        obtain ⟨x', ex', e⟩ := bind_some e
        obtain ⟨y', ey', e⟩ := bind_some e
        refine hs' v2 v4 x' y' d H4 (Ow O4 G) Q ((p2.mono (E3.sm.trans E4.sm)).get R4 ex') (p4.get R4 ey') R4.trO e fun v H' sm rp => ?_
        exact h4 v H' O4 (R4.same sm) (E1.trans (E2.trans (E3.trans (E4.trans (.same sm R4.tr))))) rp
      | false =>
        rw [if_neg (by decide)]
        exact h2 (.bl false) H3 O2 R3 (E1.trans (E2.trans E3)) (.bl false)
    | _ => exact False.elim h2
theorem ct_chain {op op' : CmpOp} {r r' : R2} {sem sem' : D → D → Option D} (ho : OpR X (compareOp op) r) (ho' : OpR X (compareOp op') r') (hs : SemR X r sem) (hs' : SemR X r' sem') (ha : CO X W ms a f) (hb : CO X W ms b g) (hc : CO X W ms c k)
    (hl : lastMarks [op, op'] [b, c] = false := by rfl) : CT X W ms (.Compare a [op, op'] [b, c] pos) (tBool (eChain sem sem' f g k)) :=
  ct_bool (pt_chain ho ho' ha hb hc hl) fun h => chain_read hs hs' h
end
/-- a body that always returns -/
def Nnx (g : Rho → SR) : Prop := ∀ r r', g r ≠ .nx r'
theorem nnx_seq {g k : Rho → SR} (h : Nnx k) : Nnx (sSeq g k) := fun r r' e => by
  unfold sSeq at e
  cases q : g r with
  | nx r1 => rw [q] at e; exact h r1 r' e
  | _ => rw [q] at e; cases e
theorem nnx_ret {f : Rho → R D} : Nnx (sRet f) := fun r r' e => by
  unfold sRet at e
  cases q : f r <;> (rw [q] at e; cases e)
theorem nnx_if {t : Rho → R Bool} {g k : Rho → SR} (hg : Nnx g) (hk : Nnx k) : Nnx (sIf t g k) := fun r r' e => by
  unfold sIf at e
  cases q : t r with
  | ok b r1 =>
    rw [q] at e
    cases b with
    | true => exact hg r1 r' e
    | false => exact hk r1 r' e
  | _ => rw [q] at e; cases e
theorem bt_len : bootBuiltins "len" = some (.builtin "len") := by decide +kernel
theorem bt_ord : bootBuiltins "ord" = some (.builtin "ord") := by decide +kernel
theorem bt_repr : bootBuiltins "repr" = some (.builtin "repr") := by decide +kernel
theorem bt_all : bootBuiltins "all" = some (.builtin "all") := by decide +kernel
theorem bt_any : bootBuiltins "any" = some (.builtin "any") := by decide +kernel
theorem bt_int : bootBuiltins "int" = some (.type "int") := by decide +kernel
theorem bt_str : bootBuiltins "str" = some (.type "str") := by decide +kernel
end DL
end

section
set_option maxHeartbeats 1000000
namespace DL
open PySem PySem.Spec PyProof.Rows L2
/-! ## exceptions: raise, try, isinstance -/
/-- an own exception class of the module -/
structure Ec (K : PySem.W.Frag) (mg : Str → Option Value) (c : Str) : Prop where
  g : mg c = some (.ref (He.ga K c))
  i : PySem.W.excIn K (He.ga K c) He.veBase "ValueError.__new__" = true
  k : PySem.W.keepIn K (.ref (He.ga K c)) = true
  s : PySem.W.subIn K (.ref (He.ga K c)) (.type "BaseException") = some true
  t : PySem.W.typeIn K (.ref (He.ga K c)) = some (.type "type")
def sRaise (c : Str) : Rho → SR := fun r => .exc c .none r
section
variable {X : Cx} {W : WX} {ms : Ms} {rs : Shp}
theorem cs_raise {c m : Str} {j : Nat} {p p2 p3 pos : Pos} (ec : Ec X.K X.mg c) (tk : Takes X W) (hc : X.calm = true := by rfl) (hg : Gl X c := by rfl) (hdb : (c == ("__debug__" : Str)) = false := by decide) :
    CS X W ms rs (.Raise (some (.Call (.Name c p) [.Constant (.str m) j p2] [] p3)) none pos) (sRaise c) :=
  (ps_raise hc tk (pmk_own PySem.F.excBase_ValueError ec.i ec.g ec.k (raises_own ec.s ec.t) hg hdb)).weak fun E σ H ⟨r, O, G, R, h⟩ =>
    h _ none σ H O R .refl .refl ⟨ec.g, .inl ⟨rfl, rfl⟩⟩
/-- what an except clause y says of the classes of a list -/
def TabOk (K : PySem.W.Frag) (mg : Str → Option Value) (y : Value) (tab : List (Str × Bool)) : Prop := ∀ c b, tab.lookup c = some b → ∃ D, mg c = some (.ref D) ∧ PySem.W.exmOne K (.ref D) y = some b
def unAs (i : Nat) : SR → SR
  | .nx r => .nx (r.set i none)
  | .rt d r => .rt d (r.set i none)
  | .bk r => .bk (r.set i none)
  | .ct r => .ct (r.set i none)
  | .exc _ _ _ => .bad
  | .bad => .bad
def excV (c : Str) : D := .dict [(.str c, .none)]
def sTryAs (i : Nat) (tab : List (Str × Bool)) (g : Rho → SR) (h : Str → Rho → SR) : Rho → SR := fun r => match g r with
  | .exc c .none r1 => match tab.lookup c with
    | some true => unAs i (h c (r1.set i (some (excV c))))
    | some false => .exc c .none r1
    | none => .bad
  | .exc _ _ _ => .bad
  | s => s
def noExc : SR → SR
  | .exc _ _ _ => .bad
  | s => s
def sTry (tab : List (Str × Bool)) (g : Rho → SR) (h : Rho → SR) : Rho → SR := fun r => match g r with
  | .exc c .none r1 => match tab.lookup c with
    | some true => noExc (h r1)
    | some false => .exc c .none r1
    | none => .bad
  | .exc _ _ _ => .bad
  | s => s
def msX (ms : Ms) (i : Nat) (a : Addr) : Ms := fun j => if j = i then { sh := .exn a, fx := true } else ms j
theorem msX_same {i : Nat} {a : Addr} : msX ms i a i = { sh := .exn a, fx := true } := if_pos rfl
theorem msX_ne {i j : Nat} {a : Addr} (h : j ≠ i) : msX ms i a j = ms j := if_neg h
theorem own_pur {K : PySem.W.Frag} {σ : L2.St} {H : Hp} {r : Rho} {O : Own} {G : Gh} (h : Rel K ms σ H r O G) {i : Nat} (hs : (ms i).sh = .pur) : O i = [] := by
  by_cases q : ∃ d, r[i]? = some (some d)
  · obtain ⟨d, e⟩ := q
    obtain ⟨v, _, rs⟩ := h.slot i d e
    rw [hs] at rs
    exact rs.purI.1
  · exact h.emp i fun d e => q ⟨d, e⟩
theorem Rel.exnIn {K : PySem.W.Frag} {σ : L2.St} {H : Hp} {r : Rho} {O : Own} {G : Gh} (h : Rel K ms σ H r O G) {i : Nat} {a : Addr} {c : Str} (hs : (ms i).sh = .pur) (hi : i < r.length) : Rel K (msX ms i a) (σ.set i (some (.ref a))) H (r.set i (some (excV c))) O G := by
  refine ⟨by rw [List.length_set, List.length_set]; exact h.len, fun j e he => ?_, fun j hj => ?_, h.tr, h.dj, h.dG⟩
  · by_cases q : j = i
    · subst q
      rw [List.getElem?_set_self hi] at he
      cases he
      refine ⟨.ref a, by rw [List.getElem?_set_self (by rw [← h.len]; exact hi)], ?_⟩
      rw [msX_same, own_pur h hs]
      exact .exn
    · rw [List.getElem?_set_ne (Ne.symm q)] at he
      obtain ⟨u, e1, rs⟩ := h.slot j e he
      refine ⟨u, by rw [List.getElem?_set_ne (Ne.symm q)]; exact e1, ?_⟩
      rw [msX_ne q]
      exact rs
  · by_cases q : j = i
    · subst q
      exact own_pur h hs
    · exact h.emp j fun d e => hj d (by rw [List.getElem?_set_ne (Ne.symm q)]; exact e)
theorem Rel.exnOut {K : PySem.W.Frag} {σ : L2.St} {H : Hp} {r : Rho} {O : Own} {G : Gh} {i : Nat} {a : Addr} (h : Rel K (msX ms i a) σ H r O G) : Rel K ms (σ.set i none) H (r.set i none) O G := by
  have hO : O i = [] := by
    by_cases q : ∃ d, r[i]? = some (some d)
    · obtain ⟨d, e⟩ := q
      obtain ⟨v, _, rs⟩ := h.slot i d e
      rw [msX_same] at rs
      generalize O i = A at rs
      cases rs
      rfl
    · exact h.emp i fun d e => q ⟨d, e⟩
  refine ⟨by rw [List.length_set, List.length_set]; exact h.len, fun j e he => ?_, fun j hj => ?_, h.tr, h.dj, h.dG⟩
  · by_cases q : j = i
    · subst q
      rw [List.getElem?_set] at he
      split at he
      · split at he <;> cases he
      · rename_i z; exact absurd rfl z
    · rw [List.getElem?_set_ne (Ne.symm q)] at he
      obtain ⟨u, e1, rs⟩ := h.slot j e he
      refine ⟨u, by rw [List.getElem?_set_ne (Ne.symm q)]; exact e1, ?_⟩
      rw [msX_ne q] at rs
      exact rs
  · by_cases q : j = i
    · subst q
      exact hO
    · exact h.emp j fun d e => hj d (by rw [List.getElem?_set_ne (Ne.symm q)]; exact e)
theorem fxX {σ σ1 σ2 : L2.St} {i : Nat} {a : Addr} (f : Fx ms σ σ1) (hf : (ms i).fx = false) (f2 : Fx (msX ms i a) (σ1.set i (some (.ref a))) σ2) : Fx ms σ (σ2.set i none) :=
  ⟨by rw [List.length_set, f2.len, List.length_set, f.len], fun j hj => by
    have q : j ≠ i := fun e => by rw [e, hf] at hj; cases hj
    have hj' : (msX ms i a j).fx = true := by rw [msX_ne q]; exact hj
    rw [List.getElem?_set_ne (Ne.symm q), f2.at_ j hj', List.getElem?_set_ne (Ne.symm q), f.at_ j hj]⟩
/-- the classes' names tell their objects -/
theorem mg_det {mg : Str → Option Value} {c : Str} {cv : Value} {D : Addr} (h1 : mg c = some cv) (h2 : mg c = some (.ref D)) : cv = .ref D := by
  rw [h1] at h2; exact Option.some.inj h2
def tsAs (X : Cx) (ms : Ms) (rs : Shp) (i : Nat) (tab : List (Str × Bool)) (h : Str → Rho → SR) : Addr → Value → Option Addr → TS := fun a cls d E σ H =>
  ∃ c D r O G, X.mg c = some (.ref D) ∧ cls = .ref D ∧ d = none ∧ tab.lookup c = some true ∧ Rel X.K (msX ms i a) σ H r O G ∧ SOn X W0 (msX ms i a) rs E σ H O G (h c r)
theorem cs_tryAs {i : Nat} {n y : Str} {yv : Value} {tab : List (Str × Bool)} {body suite : List Stmt} {b₀ : Stmt} {np pos pos' : Pos} {g : Rho → SR} {h : Str → Rho → SR}
    (hN : X.N.Nodup) (hc : Names X y yv) (tk : Takes X W) (ht : TabOk X.K X.mg yv tab)
    (hb : ∀ (W' : WX) (pn : List (Addr × Obj)) (xe : Value → Shared → Prop), Takes (X.tr pn xe) W' → PassesOwn (model X.prog X.w) X.A X.env xe → CSs (X.tr pn xe) W' ms rs body g)
    (hsu : ∀ (a : Addr) (oe : Obj) (D : Addr) (c : Str) (pn : List (Addr × Obj)), X.mg c = some (.ref D) → tab.lookup c = some true → Zc (.ref D) none oe → (∃ vs, oe.data = .fields vs) → CSs (X.suite a ((a, oe) :: pn)) W0 (msX ms i a) rs (b₀ :: suite) (h c))
    (hp : (ms i).sh = .pur := by rfl) (hfx : (ms i).fx = false := by rfl) (hi : X.N[i]? = some n := by rfl) (hln : X.env.kindOf n = some .local := by rfl) (hs : X.stack = X.env :: X.outer := by rfl) (hf : X.env.frame = some X.env.locals := by rfl) :
    CS X W ms rs (.Try body [.ExceptHandler (some (.Name y np)) (some n) (b₀ :: suite) pos'] [] [] pos) (sTryAs i tab g h) := by
  refine (ps_try_as (tb := fun W' => tS X W' ms rs g) (ts := tsAs X ms rs i tab h) (Wout := W) hs hf hN hi hln hc tk (fun W' pn xe t p => hb W' pn xe t p) (fun a oe cls d pn hz hv => ?_)).lenW ?_
  · refine ⟨fun pins s σ H E I q => ?_⟩
    obtain ⟨c, D, r, O, G, h1, rfl, rfl, h2, R, q⟩ := q
    exact (hsu a oe D c pn h1 h2 hz hv).run pins s σ H E I ⟨r, O, G, R, q⟩
  · intro E σ H hl ⟨r, O, G, R, q⟩
    refine ⟨r, O, G, R, ?_⟩
    unfold sTryAs at q
    cases e : g r with
    | nx r1 => rw [e] at q; exact q
    | rt d r1 => rw [e] at q; exact q
    | bk r1 => rw [e] at q; exact q
    | ct r1 => rw [e] at q; exact q
    | bad => rw [e] at q; exact q
    | exc c x r1 =>
      rw [e] at q
      intro cv dx σ' H' O' R' E' F' ex
      cases x with
      | none =>
        simp only at q
        obtain ⟨h1, h2⟩ := ex
        have h2 : dx = none := by
          rcases h2 with ⟨_, h2⟩ | ⟨_, _, _, h2, _⟩
          · exact h2
          · cases h2
        subst h2
        cases hb2 : tab.lookup c with
        | none => rw [hb2] at q; exact False.elim q
        | some b =>
          rw [hb2] at q
          obtain ⟨D, g1, g2⟩ := ht c b hb2
          have := mg_det h1 g1
          subst this
          refine ⟨b, g2, fun hbt a na => ?_, fun hbf => ?_⟩
          · subst hbt
            simp only at q
            have hil : i < r1.length := by rw [R'.len, F'.len, hl]; exact (List.getElem?_eq_some_iff.mp hi).1
            refine ⟨c, D, r1.set i (some (excV c)), O', G, g1, rfl, rfl, hb2, R'.exnIn hp hil, ?_⟩
            cases e3 : h c (r1.set i (some (excV c))) with
            | nx r2 => rw [e3] at q; exact fun σ3 H3 O3 R3 E3 F3 => q _ H3 O3 R3.exnOut (E'.trans E3) (fxX F' hfx F3)
            | bk r2 => rw [e3] at q; exact fun σ3 H3 O3 R3 E3 F3 => q _ H3 O3 R3.exnOut (E'.trans E3) (fxX F' hfx F3)
            | ct r2 => rw [e3] at q; exact fun σ3 H3 O3 R3 E3 F3 => q _ H3 O3 R3.exnOut (E'.trans E3) (fxX F' hfx F3)
            | rt d r2 => rw [e3] at q; exact fun v σ3 H3 O3 A R3 E3 n3 F3 rp => q v _ H3 O3 A R3.exnOut (E'.trans E3) n3 (fxX F' hfx F3) rp
            | exc _ _ _ => rw [e3] at q; exact False.elim q
            | bad => rw [e3] at q; exact False.elim q
          · subst hbf
            exact q _ none σ' H' O' R' E' F' ⟨h1, .inl ⟨rfl, rfl⟩⟩
      | _ => exact False.elim q
def tsOnly (X : Cx) (ms : Ms) (rs : Shp) (h : Rho → SR) : Addr → Value → Option Addr → TS := fun _ _ _ E σ H => ∃ r O G, Rel X.K ms σ H r O G ∧ SOn X W0 ms rs E σ H O G (h r)
theorem cs_try {y : Str} {yv : Value} {tab : List (Str × Bool)} {body suite : List Stmt} {b₀ : Stmt} {np pos pos' : Pos} {g h : Rho → SR}
    (hc : Names X y yv) (tk : Takes X W) (ht : TabOk X.K X.mg yv tab)
    (hb : ∀ (W' : WX) (pn : List (Addr × Obj)) (xe : Value → Shared → Prop), Takes (X.tr pn xe) W' → PassesOwn (model X.prog X.w) X.A X.env xe → CSs (X.tr pn xe) W' ms rs body g)
    (hsu : ∀ (a : Addr) (oe : Obj) (pn : List (Addr × Obj)), CSs (X.suite a ((a, oe) :: pn)) W0 ms rs (b₀ :: suite) h)
    (hs : X.stack = X.env :: X.outer := by rfl) (hf : X.env.frame = some X.env.locals := by rfl) :
    CS X W ms rs (.Try body [.ExceptHandler (some (.Name y np)) none (b₀ :: suite) pos'] [] [] pos) (sTry tab g h) := by
  refine (ps_try_only (tb := fun W' => tS X W' ms rs g) (ts := tsOnly X ms rs h) (Wout := W) hs hf hc tk (fun W' pn xe t p => hb W' pn xe t p) (fun a oe cls d pn hz hv => ?_)).lenW ?_
  · refine ⟨fun pins s σ H E I q => ?_⟩
    obtain ⟨r, O, G, R, q⟩ := q
    exact (hsu a oe pn).run pins s σ H E I ⟨r, O, G, R, q⟩
  · intro E σ H hl ⟨r, O, G, R, q⟩
    refine ⟨r, O, G, R, ?_⟩
    unfold sTry at q
    cases e : g r with
    | nx r1 => rw [e] at q; exact q
    | rt d r1 => rw [e] at q; exact q
    | bk r1 => rw [e] at q; exact q
    | ct r1 => rw [e] at q; exact q
    | bad => rw [e] at q; exact q
    | exc c x r1 =>
      rw [e] at q
      intro cv dx σ' H' O' R' E' F' ex
      cases x with
      | none =>
        simp only at q
        obtain ⟨h1, h2⟩ := ex
        have h2 : dx = none := by
          rcases h2 with ⟨_, h2⟩ | ⟨_, _, _, h2, _⟩
          · exact h2
          · cases h2
        subst h2
        cases hb2 : tab.lookup c with
        | none => rw [hb2] at q; exact False.elim q
        | some b =>
          rw [hb2] at q
          obtain ⟨D, g1, g2⟩ := ht c b hb2
          have := mg_det h1 g1
          subst this
          refine ⟨b, g2, fun hbt a na => ?_, fun hbf => ?_⟩
          · subst hbt
            simp only at q
            refine ⟨r1, O', G, R', ?_⟩
            cases e3 : h r1 with
            | nx r2 => rw [e3] at q; exact fun σ3 H3 O3 R3 E3 F3 => q _ H3 O3 R3 (E'.trans E3) (F'.trans F3)
            | bk r2 => rw [e3] at q; exact fun σ3 H3 O3 R3 E3 F3 => q _ H3 O3 R3 (E'.trans E3) (F'.trans F3)
            | ct r2 => rw [e3] at q; exact fun σ3 H3 O3 R3 E3 F3 => q _ H3 O3 R3 (E'.trans E3) (F'.trans F3)
            | rt d r2 => rw [e3] at q; exact fun v σ3 H3 O3 A R3 E3 n3 F3 rp => q v _ H3 O3 A R3 (E'.trans E3) n3 (F'.trans F3) rp
            | exc _ _ _ => rw [e3] at q; exact False.elim q
            | bad => rw [e3] at q; exact False.elim q
          · subst hbf
            exact q _ none σ' H' O' R' E' F' ⟨h1, .inl ⟨rfl, rfl⟩⟩
      | _ => exact False.elim q
end
/-! isinstance(e, Y), e the exception of the suite -/
def isTab (K : PySem.W.Frag) (mg : Str → Option Value) (Y : Addr) (tab : List (Str × Bool)) : Prop := ∀ c b, tab.lookup c = some b → ∃ D, mg c = some (.ref D) ∧ PySem.W.kitOne K (.ref D) (.ref Y) = some b ∧ ExcC K D
def eIsE (i : Nat) (c : Str) (tab : List (Str × Bool)) : Rho → R D := fun r => match (r[i]?).join with
  | some (.dict _) => .ofO ((tab.lookup c).map .bool) r
  | _ => .bad
section
variable {X : Cx} {W : WX} {ms : Ms} {rs : Shp}
theorem ce_isE {a D Y : Addr} {oe : Obj} {pn : List (Addr × Obj)} {i : Nat} {c n y : Str} {tab : List (Str × Bool)} {p p1 p2 pos : Pos} (hD : X.mg c = some (.ref D)) (hz : Zc (.ref D) none oe) (hv : ∃ vs, oe.data = .fields vs) (hY : X.mg y = some (.ref Y)) (ht : isTab X.K X.mg Y tab)
    (hb : X.mg "isinstance" = none) (hsh : (ms i).sh = .exn a) (hi : X.N[i]? = some n := by rfl) (hvis : Vis X.env.scope n := by first | exact .inl rfl | exact .inr (.inl rfl)) (hg : Gl X "isinstance" := by rfl) (hgy : Gl X y := by rfl) (hdy : (y == ("__debug__" : Str)) = false := by decide) (hdn : (n == ("__debug__" : Str)) = false := by decide) (hcn : (n == ("__classdict__" : Str)) = false := by decide)
    (he : starEach [.Name n p1, .Name y p2] X.env = (false, eval (.Name n p1) X.env) :: starEach [.Name y p2] X.env := by rfl) (hpl : (backTo pos (starEach [.Name y p2] X.env)).any (·.1) = false := by rfl) :
    CE (X.suite a ((a, oe) :: pn)) W ms (.Call (.Name "isinstance" p) [.Name n p1, .Name y p2] [] pos) (eIsE i c tab) := by
  by_cases hx : ∃ b, tab.lookup c = some b
  · obtain ⟨b, hb1⟩ := hx
    obtain ⟨D', g1, g2, g3⟩ := ht c b hb1
    rw [hD] at g1
    cases g1
    have hA : PA (X.suite a ((a, oe) :: pn)) [.Name n p1, .Name y p2] (tCons (tVar i) (tCons (tC (.ref Y)) tNil)) := pa_cons (pe_var (X := X.suite a ((a, oe) :: pn)) hi hvis hdn hcn) (pa_cons (pe_glob (X := X.suite a ((a, oe) :: pn)) hgy hY rfl hdy) pa_nil)
    refine (pe_callB (X := X.suite a ((a, oe) :: pn)) (call_isE g3 hz hv) hg hb (by rfl) hA (by decide) (by decide) he hpl).weak fun σ H Q ⟨r, O, G, R, h⟩ => ?_
    unfold eIsE at h
    cases e : (r[i]?).join with
    | none => rw [e] at h; exact False.elim h
    | some d =>
      rw [e] at h
      obtain ⟨v, e1, rs⟩ := R.slot i d (join_some e)
      rw [hsh] at rs
      obtain ⟨rfl, c', rfl⟩ := rs.exnI
      simp only [hb1, Option.map_some] at h
      exact ⟨.ref a, e1, ⟨.ref Y, .ref Y, b, rfl, fun u q => q, g2, h (.bl b) H O R .refl (.bl b)⟩⟩
  · refine ⟨fun pins s σ H Q I ⟨r, O, G, R, h⟩ => ?_⟩
    unfold eIsE at h
    have hn : tab.lookup c = none := by
      cases e : tab.lookup c with
      | none => rfl
      | some b => exact absurd ⟨b, e⟩ hx
    rw [hn] at h
    exfalso
    cases e : (r[i]?).join with
    | none => rw [e] at h; exact h
    | some d => rw [e] at h; cases d <;> exact h
end
end DL
end

section
set_option maxHeartbeats 1000000
namespace DL
open PySem PySem.Spec PyProof.Rows L2
/-! ## slices, tuples, more operators -/
section
variable {X : Cx}
theorem new_tup {H : Hp} {W : Gh} {p : Addr} {vs : List V} {ds : List D} (tr : ∀ p, W p → H p ≠ none) (hp : H p = none) (ra : RepAll X.K (msk H W) vs ds) : Same H (upd H p (.tup vs)) ∧ Rep X.K (msk (upd H p (.tup vs)) W) (.ref p) (.tuple ds) := by
  have sm : Same H (upd H p (.tup vs)) := fun b u e => by rw [upd_ne (ne_of_none e hp)]; exact e
  exact ⟨sm, .tup (.inl (.inl (msk_mk (fun w => tr p w hp) upd_same))) (ra.mono (msk_same sm))⟩
theorem new_lst {H : Hp} {W : Gh} {p : Addr} {vs : List V} {ds : List D} (tr : ∀ p, W p → H p ≠ none) (hp : H p = none) (ra : RepAll X.K (msk H W) vs ds) : Same H (upd H p (.lst vs)) ∧ Rep X.K (msk (upd H p (.lst vs)) W) (.ref p) (.list ds) := by
  have sm : Same H (upd H p (.lst vs)) := fun b u e => by rw [upd_ne (ne_of_none e hp)]; exact e
  exact ⟨sm, .lst (.inl (msk_mk (fun w => tr p w hp) upd_same)) (ra.mono (msk_same sm))⟩
def cutD (xs : List D) (lo hi : Option Int) : List D := (xs.drop (HT.sIx xs.length 0 lo)).take (HT.sIx xs.length xs.length hi - HT.sIx xs.length 0 lo)
def dSl : D → Option Int → Option Int → Option D
  | .str z, lo, hi => if z.length ≤ sizeLine then some (.str (cutS z lo hi)) else none
  | .tuple ds, lo, hi => some (.tuple (cutD ds lo hi))
  | .list ds, lo, hi => some (.list (cutD ds lo hi))
  | _, _, _ => none
def SemS (X : Cx) (r : V → Option Int → Option Int → Hp → VK → Prop) (sem : D → Option Int → Option Int → Option D) : Prop := ∀ (x : V) (a d : D) (lo hi : Option Int) (H : Hp) (W : Gh) (Q : VK), RepB X.K (msk H W) H x a → (∀ p, W p → H p ≠ none) → sem a lo hi = some d →
  (∀ v H', Same H H' → Rep X.K (msk H' W) v d → Q v H') → r x lo hi H Q
theorem sl_all : SlR X (fun x lo hi H Q => rSlS x lo hi H Q ∨ rSlA X.K x lo hi H Q ∨ rSlL X.K x lo hi H Q) := sl_str.or (sl_tupA.or sl_list)
theorem RepAll.cut {K : PySem.W.Frag} {H : Hp} {vs : List V} {ds : List D} (h : RepAll K H vs ds) (lo hi : Option Int) : RepAll K H (cutV vs lo hi) (cutD ds lo hi) := by
  unfold cutV cutD
  rw [h.len]
  exact (h.drop _).take _
theorem cutD_whole {ds : List D} {lo hi : Option Int} (h : HT.sIx ds.length 0 lo = 0 ∧ HT.sIx ds.length ds.length hi = ds.length) : cutD ds lo hi = ds := by
  unfold cutD
  rw [h.1, h.2, List.drop_zero, Nat.sub_zero, List.take_length]
theorem ss_all : SemS X (fun x lo hi H Q => rSlS x lo hi H Q ∨ rSlA X.K x lo hi H Q ∨ rSlL X.K x lo hi H Q) dSl := fun x a d lo hi H W Q ra tr e q => by
  cases a <;> first | (cases e; done) | skip
  · obtain ⟨hz, rfl⟩ := ite_some e
    exact .inl ⟨_, ra.strI, hz, q _ H (Same.refl _) (.str _)⟩
  · cases e
    obtain ⟨p, xs, rfl, h1, r⟩ := ra.lstI
    exact .inr (.inr ⟨p, xs, rfl, .inl h1, fun l hl => let n := new_lst tr hl (r.cut lo hi); q _ _ n.1 n.2⟩)
  · cases e
    rename_i ds
    obtain ⟨p, xs, rfl, h1, r⟩ := ra.tupI
    refine .inr (.inl ⟨p, xs, rfl, h1, fun h => ?_, fun h l hl => let n := new_tup tr hl (r.cut lo hi); q _ _ n.1 n.2⟩)
    rw [r.len] at h
    rw [cutD_whole h] at q
    obtain ⟨sh, A, k, ra⟩ := ra
    cases ra with
    | pur ra => exact q _ H (Same.refl _) ra
end
section
variable {X : Cx} {W : WX} {ms : Ms} {e : Expr} {pos p2 : Pos}
def tP (X : Cx) (W : WX) (ms : Ms) (f : Rho → R (Option Int)) : TO := fun σ H Q => ∃ r O G, Rel X.K ms σ H r O G ∧
  (f r).on (fun d r' => ∀ H' O', Rel X.K ms σ H' r' O' G → Ext H O G H' O' G → Q d H') (Bx X W ms σ H O G)
abbrev CP (X : Cx) (W : WX) (ms : Ms) (e : Option Expr) (f : Rho → R (Option Int)) : Prop := PO X e (tP X W ms f)
def pNone : Rho → R (Option Int) := fun r => .ok none r
def pSome (f : Rho → R D) : Rho → R (Option Int) := fun r => (f r).bind fun d r1 => match d with
  | .int i => .ok (some i) r1
  | _ => .bad
theorem _root_.L2.PO.weak {X : Cx} {e : Option Expr} {t t' : TO} (h : PO X e t) (w : ∀ σ H Q, t' σ H Q → t σ H Q) : PO X e t' := ⟨fun pins s σ H Q I q => h.run pins s σ H Q I (w σ H Q q)⟩
theorem cp_none : CP X W ms none pNone := po_none.weak fun σ H Q ⟨r, O, G, R, h⟩ => h H O R .refl
theorem cp_some {f : Rho → R D} (h : CE X W ms e f) : CP X W ms (some e) (pSome f) := (po_some h).weak fun σ H Q ⟨r, O, G, R, h⟩ => by
  unfold pSome at h
  rw [on_bind] at h
  refine tE_step R h fun d r1 v H1 O1 h1 R1 E1 p1 => ?_
  cases d with
  | int i => exact ⟨i, p1.intI, h1 H1 O1 R1 E1⟩
  | _ => exact False.elim h1
def eSl (f : Rho → R Opd) (g k : Rho → R (Option Int)) : Rho → R D := fun r => (f r).bind fun o r1 => (g r1).bind fun lo r2 => (k r2).bind fun hi r3 => .ofO ((o.get r3).bind fun d => dSl d lo hi) r3
theorem tP_step {f : Rho → R (Option Int)} {A : Option Int → Rho → Prop} {Q : Option Int → Hp → Prop} {σ : L2.St} {H : Hp} {r : Rho} {O : Own} {G : Gh} (h : Rel X.K ms σ H r O G) (hh : (f r).on A (Bx X W ms σ H O G))
    (q : ∀ d r' H' O', A d r' → Rel X.K ms σ H' r' O' G → Ext H O G H' O' G → Q d H') : tP X W ms f σ H Q :=
  ⟨r, O, G, h, hh.mono (fun d r' a H' O' R E => q d r' H' O' a R E) fun _ _ _ b => b⟩
theorem ce_sl {lo hi : Option Expr} {f : Rho → R Opd} {g k : Rho → R (Option Int)} (he : CO X W ms e f) (hl : CP X W ms lo g) (hh : CP X W ms hi k) : CE X W ms (.Subscript e (.Slice lo hi none p2) pos) (eSl f g k) :=
  (pe_slice sl_all he hl hh).weak fun σ H Q ⟨r, O, G, R, h⟩ => by
    unfold eSl at h
    rw [on_bind] at h
    refine tO_step R h fun o r1 v H1 O1 h1 R1 E1 p1 => ?_
    rw [on_bind] at h1
    refine tP_step R1 (bxm E1 h1) fun lo r2 H2 O2 h2 R2 E2 => ?_
    rw [on_bind] at h2
    refine tP_step R2 (bxm (E1.trans E2) h2) fun hi r3 H3 O3 h3 R3 E3 => ?_
    obtain ⟨d, e, h3⟩ := on_ofO h3
    obtain ⟨x, ex, e⟩ := bind_some e
    exact ss_all v x d lo hi H3 (Ow O3 G) Q ((p1.mono (E2.sm.trans E3.sm)).get R3 ex) R3.trO e fun u H' sm rp => h3 u H' O3 (R3.same sm) (E1.trans (E2.trans (E3.trans (.same sm R3.tr)))) rp
end
section
variable {X : Cx}
/-! + and * -/
def dAdd2 : D → D → Option D
  | .tuple a, .tuple b => if a.length + b.length ≤ sizeLine then some (.tuple (a ++ b)) else none
  | x, y => dAdd x y
theorem or_add2 : OpR X (binaryOp .Add) (fun x y H Q => rAdd x y H Q ∨ rCatA X.K x y H Q) := or_add.or op_catA
theorem RepB.pure {K : PySem.W.Frag} {M H : Hp} {v : V} {ds : List D} (h : RepB K M H v (.tuple ds)) : Rep K M v (.tuple ds) := by
  obtain ⟨sh, A, k, h⟩ := h
  cases h with
  | pur h => exact h
theorem sr_add2 : SemR X (fun x y H Q => rAdd x y H Q ∨ rCatA X.K x y H Q) dAdd2 := fun x y a b d H W Q ra rb tr e q => by
  by_cases h : ∃ as bs, a = .tuple as ∧ b = .tuple bs
  · obtain ⟨as, bs, rfl, rfl⟩ := h
    obtain ⟨hz, rfl⟩ := ite_some e
    obtain ⟨p, xs, rfl, h1, r1⟩ := ra.tupI
    obtain ⟨p', ys, rfl, h2, r2⟩ := rb.tupI
    refine .inr ⟨p, p', xs, ys, rfl, rfl, h1, h2, by rw [r1.len, r2.len]; exact hz, fun hx => ?_, fun _ hy => ?_, fun _ _ l hl => let n := new_tup tr hl (r1.append r2); q _ _ n.1 n.2⟩
    · subst hx
      cases r1
      exact q _ H (Same.refl _) rb.pure
    · subst hy
      cases r2
      rw [List.append_nil] at q
      exact q _ H (Same.refl _) ra.pure
  · have e' : dAdd a b = some d := by
      unfold dAdd2 at e
      split at e
      · exact absurd ⟨_, _, rfl, rfl⟩ h
      · exact e
    exact .inl (sr_add x y a b d H W Q ra rb tr e' q)
def dMul2 : D → D → Option D
  | .tuple xs, .int k => if (!xs.isEmpty && decide (2 ≤ k) && decide (k ≤ 1000) && decide (xs.length ≤ 1000)) = true then some (.tuple (List.replicate k.toNat xs).flatten) else none
  | x, y => dMul x y
theorem or_mul2 : OpR X (binaryOp .Mult) (fun x y H Q => rMul x y H Q ∨ rRepT X.K x y H Q) := or_mul.or op_repT
theorem sr_mul2 : SemR X (fun x y H Q => rMul x y H Q ∨ rRepT X.K x y H Q) dMul2 := fun x y a b d H W Q ra rb tr e q => by
  by_cases h : ∃ as k, a = .tuple as ∧ b = .int k
  · obtain ⟨as, k, rfl, rfl⟩ := h
    obtain ⟨hz, rfl⟩ := ite_some e
    simp only [Bool.and_eq_true, Bool.not_eq_true', decide_eq_true_eq] at hz
    obtain ⟨⟨⟨h1, h2⟩, h3⟩, h4⟩ := hz
    obtain ⟨p, xs, rfl, hx, r1⟩ := ra.tupI
    rw [rb.intI]
    refine .inr ⟨p, k, xs, rfl, rfl, hx, fun z => ?_, h2, h3, by rw [r1.len]; exact h4, fun l hl => let n := new_tup tr hl (r1.rep _); q _ _ n.1 n.2⟩
    subst z
    cases r1
    cases h1
  · have e' : dMul a b = some d := by
      unfold dMul2 at e
      split at e
      · exact absurd ⟨_, _, rfl, rfl⟩ h
      · exact e
    exact .inl (sr_mul x y a b d H W Q ra rb tr e' q)
/-! in -/
def dIn : D → D → Option D
  | .str i, .str j => some (.bool (strIn i j))
  | d, .list ds => if (SeqAt.shaped d && SeqAt.shaped (.list ds)) = true then some (.bool (ds.any fun z => PyData.eqv z d)) else none
  | _, _ => none
def dNotIn : D → D → Option D
  | .str i, .str j => some (.bool (!strIn i j))
  | d, .list ds => if (SeqAt.shaped d && SeqAt.shaped (.list ds)) = true then some (.bool (!ds.any fun z => PyData.eqv z d)) else none
  | _, _ => none
theorem or_in (hu : X.A.units + 64 < cLine) (hu2 : X.A.units + 65 < cLine) : OpR X (compareOp .In) (fun x y H Q => (∃ i j, x = .str i ∧ y = .str j ∧ Q (.bl (!(Builtin.Str.occurrences j i 0 j.length 1).isEmpty)) H) ∨ rInD X.K x y H Q) := op_in_str.or (op_inD hu2)
theorem sr_in : SemR X (fun x y H Q => (∃ i j, x = .str i ∧ y = .str j ∧ Q (.bl (!(Builtin.Str.occurrences j i 0 j.length 1).isEmpty)) H) ∨ rInD X.K x y H Q) dIn := fun x y a b d H W Q ra rb tr e q => by
  cases b <;> first | (cases a <;> (first | (cases e; done) | skip)) | skip
  · cases e
    rw [ra.strI, rb.strI]
    exact .inl ⟨_, _, rfl, rfl, q _ H (Same.refl _) (.bl _)⟩
  all_goals
    obtain ⟨hz, rfl⟩ := ite_some e
    obtain ⟨h1, h2⟩ := Bool.and_eq_true_iff.mp hz
    exact .inr ⟨_, _, ra.rep.dp, rb.rep.dp, h1, h2, q _ H (Same.refl _) (.bl _)⟩
theorem or_notIn (hu : X.A.units + 64 < cLine) (hu2 : X.A.units + 65 < cLine) : OpR X (compareOp .NotIn) (fun x y H Q => (∃ i j, x = .str i ∧ y = .str j ∧ Q (.bl (!!(Builtin.Str.occurrences j i 0 j.length 1).isEmpty)) H) ∨ rNotInD X.K x y H Q) := op_notIn_str.or (op_notInD hu2)
theorem sr_notIn : SemR X (fun x y H Q => (∃ i j, x = .str i ∧ y = .str j ∧ Q (.bl (!!(Builtin.Str.occurrences j i 0 j.length 1).isEmpty)) H) ∨ rNotInD X.K x y H Q) dNotIn := fun x y a b d H W Q ra rb tr e q => by
  cases b <;> first | (cases a <;> (first | (cases e; done) | skip)) | skip
  · cases e
    rw [ra.strI, rb.strI]
    refine .inl ⟨_, _, rfl, rfl, ?_⟩
    have := q (.bl _) H (Same.refl _) (.bl _)
    simpa [strIn] using this
  all_goals
    obtain ⟨hz, rfl⟩ := ite_some e
    obtain ⟨h1, h2⟩ := Bool.and_eq_true_iff.mp hz
    exact .inr ⟨_, _, ra.rep.dp, rb.rep.dp, h1, h2, q _ H (Same.refl _) (.bl _)⟩
/-! tuple(s), list(s), s.index -/
def cTuple : List D → Option D
  | [.list ds] => some (.tuple ds)
  | [.tuple ds] => some (.tuple ds)
  | _ => none
theorem sc_tuple : SemC X (fun xs H Q => ∃ p ys, xs = [.ref p] ∧ ((SqL X.K H p ys ∧ ∀ l, H l = none → Q (.ref l) (upd H l (.tup ys))) ∨ (SqT X.K H p ys ∧ Q (.ref p) H))) cTuple := fun xs ds d H W Q rs tr e q => by
  cases rs with
  | nil => cases e
  | cons a b =>
    rename_i v vs y ds'
    cases b with
    | cons _ _ => cases y <;> cases e
    | nil =>
      cases y <;> first | (cases e; done) | skip
      · cases e
        obtain ⟨p, ys, rfl, h1, r⟩ := a.lstI
        exact ⟨p, ys, rfl, .inl ⟨.inl h1, fun l hl => let n := new_tup tr hl r; q _ _ n.1 n.2⟩⟩
      · cases e
        obtain ⟨p, ys, rfl, h1, r⟩ := a.tupI
        exact ⟨p, ys, rfl, .inr ⟨h1, q _ H (Same.refl _) a.pure⟩⟩
def cList : List D → Option (List D)
  | [.list ds] => some ds
  | [.tuple ds] => some ds
  | _ => none
theorem sc_list : SemL X (fun xs H Q => ∃ p ys, xs = [.ref p] ∧ (SqL X.K H p ys ∨ SqT X.K H p ys) ∧ ∀ l, H l = none → Q (.ref l) (upd H l (.lst ys))) cList := fun xs ds es H W Q rs tr e q => by
  cases rs with
  | nil => cases e
  | cons a b =>
    rename_i v vs y ds'
    cases b with
    | cons _ _ => cases y <;> cases e
    | nil =>
      cases y <;> first | (cases e; done) | skip
      · cases e
        obtain ⟨p, ys, rfl, h1, r⟩ := a.lstI
        exact ⟨p, ys, rfl, .inl (.inl h1), fun l hl => q _ H l (Same.refl _) hl r⟩
      · cases e
        obtain ⟨p, ys, rfl, h1, r⟩ := a.tupI
        exact ⟨p, ys, rfl, .inr h1, fun l hl => q _ H l (Same.refl _) hl r⟩
def mIndexS : D → List D → Option D := fun c ds => match c, ds with
  | .str a, [.str b] => match Builtin.Str.occurrences a b 0 a.length 1 with
    | i :: _ => some (.int (i : Nat))
    | [] => none
  | _, _ => none
theorem sm_indexS : SemM X (fun x xs H Q => ∃ a b i rest, x = .str a ∧ xs = [.str b] ∧ Builtin.Str.occurrences a b 0 a.length 1 = i :: rest ∧ Q (.int (i : Nat)) H) mIndexS := fun x c xs ds d H W Q rc rx tr e q => by
  cases c <;> first | (cases e; done) | skip
  rename_i a
  cases rx with
  | nil => cases e
  | cons r1 r2 =>
    rename_i v vs y ds'
    cases r2 with
    | cons _ _ => cases y <;> cases e
    | nil =>
      cases y <;> first | (cases e; done) | skip
      rename_i b
      unfold mIndexS at e
      simp only at e
      split at e
      · rename_i i rest ho
        cases e
        rw [rc.strI, r1.strI]
        exact ⟨a, b, i, rest, rfl, rfl, ho, q _ H (Same.refl _) (.int _)⟩
      · cases e
/-! is True, is False -/
def dIsB : D → D → Option D
  | .bool a, .bool b => some (.bool (decide (a = b)))
  | .int _, .bool _ => some (.bool false)
  | .none, .bool _ => some (.bool false)
  | _, _ => none
def dNotB : D → D → Option D
  | .bool a, .bool b => some (.bool (!decide (a = b)))
  | .int _, .bool _ => some (.bool true)
  | .none, .bool _ => some (.bool true)
  | _, _ => none
def flB : V → Bool
  | .bl _ => true
  | .int _ => true
  | .non => true
  | _ => false
theorem op_isF : OpR X (compareOp .Is) (fun x y H Q => ∃ b, y = .bl b ∧ flB x = true ∧ Q (.bl (decide (x = .bl b))) H) := by
  intro pins s σ H x y v u Q I rx ry h
  obtain ⟨b, rfl, hf, q⟩ := h
  cases (show u = Value.bool b from ry)
  cases x <;> first | (cases hf; done) | skip
  · cases (show v = Value.none from rx)
    exact wpAny_is_other rfl (fun z => nomatch z) ⟨.bl false, H, I, rfl, by simpa using q⟩
  · rename_i a
    cases (show v = Value.bool a from rx)
    by_cases e : a = b
    · subst e
      exact wpAny_is_self rfl ⟨.bl true, H, I, rfl, by simpa using q⟩
    · exact wpAny_is_other rfl (fun z => e (Value.bool.inj z)) ⟨.bl false, H, I, rfl, by simpa [e] using q⟩
  · obtain ⟨t, rfl⟩ := rx
    exact wpAny_is_other rfl (fun z => nomatch z) ⟨.bl false, H, I, rfl, by simpa using q⟩
theorem op_notF : OpR X (compareOp .IsNot) (fun x y H Q => ∃ b, y = .bl b ∧ flB x = true ∧ Q (.bl (!decide (x = .bl b))) H) := by
  intro pins s σ H x y v u Q I rx ry h
  obtain ⟨b, rfl, hf, q⟩ := h
  cases (show u = Value.bool b from ry)
  cases x <;> first | (cases hf; done) | skip
  · cases (show v = Value.none from rx)
    exact wpAny_isNot_other rfl (fun z => nomatch z) ⟨.bl true, H, I, rfl, by simpa using q⟩
  · rename_i a
    cases (show v = Value.bool a from rx)
    by_cases e : a = b
    · subst e
      exact wpAny_isNot_self rfl ⟨.bl false, H, I, rfl, by simpa using q⟩
    · exact wpAny_isNot_other rfl (fun z => e (Value.bool.inj z)) ⟨.bl true, H, I, rfl, by simpa [e] using q⟩
  · obtain ⟨t, rfl⟩ := rx
    exact wpAny_isNot_other rfl (fun z => nomatch z) ⟨.bl true, H, I, rfl, by simpa using q⟩
theorem sr_isB : SemR X (fun x y H Q => ∃ b, y = .bl b ∧ flB x = true ∧ Q (.bl (decide (x = .bl b))) H) dIsB := fun x y a b d H W Q ra rb tr e q => by
  cases b <;> first | (cases a <;> cases e; done) | skip
  cases a <;> first | (cases e; done) | skip
  · cases e
    rw [ra.nonI, rb.blI]
    exact ⟨_, rfl, rfl, by simpa using q _ H (Same.refl _) (.bl _)⟩
  · cases e
    rw [ra.blI, rb.blI]
    exact ⟨_, rfl, rfl, by simpa using q _ H (Same.refl _) (.bl _)⟩
  · cases e
    rw [ra.intI, rb.blI]
    exact ⟨_, rfl, rfl, by simpa using q _ H (Same.refl _) (.bl _)⟩
theorem sr_notB : SemR X (fun x y H Q => ∃ b, y = .bl b ∧ flB x = true ∧ Q (.bl (!decide (x = .bl b))) H) dNotB := fun x y a b d H W Q ra rb tr e q => by
  cases b <;> first | (cases a <;> cases e; done) | skip
  cases a <;> first | (cases e; done) | skip
  · cases e
    rw [ra.nonI, rb.blI]
    exact ⟨_, rfl, rfl, by simpa using q _ H (Same.refl _) (.bl _)⟩
  · cases e
    rw [ra.blI, rb.blI]
    exact ⟨_, rfl, rfl, by simpa using q _ H (Same.refl _) (.bl _)⟩
  · cases e
    rw [ra.intI, rb.blI]
    exact ⟨_, rfl, rfl, by simpa using q _ H (Same.refl _) (.bl _)⟩
end
/-! isinstance(x, T), T a built-in type -/
def tyN : D → Option String
  | .none => some "NoneType"
  | .bool _ => some "bool"
  | .int _ => some "int"
  | .str _ => some "str"
  | _ => none
def instT (T : String) (d : D) : Option Bool := (tyN d).bind fun a => L2.kitB a T
def eInst (T : String) (f : Rho → R Opd) : Rho → R D := fun r => (f r).bind fun o r1 => .ofO (((o.get r1).bind (instT T)).map .bool) r1
section
variable {X : Cx} {W : WX} {ms : Ms}
theorem ce_inst {e : Expr} {f : Rho → R Opd} {T : String} {y : Str} {p p2 pos : Pos} (he : CO X W ms e f) (hb : X.mg "isinstance" = none) (hY : X.mg y = none) (hT : bootBuiltins y = some (.type T)) (hg : Gl X "isinstance" := by rfl) (hgy : Gl X y := by rfl) (hny : y ≠ "__name__" := by decide) (hdy : (y == ("__debug__" : Str)) = false := by decide)
    (hse : starEach [e, .Name y p2] X.env = (false, eval e X.env) :: starEach [.Name y p2] X.env := by rfl) (hpl : (backTo pos (starEach [.Name y p2] X.env)).any (·.1) = false := by rfl)
    (hs0 : ∀ q, starEach [e, .Name y p2] q = (false, eval e q) :: starEach [.Name y p2] q := by exact fun _ => rfl) :
    CE X W ms (.Call (.Name "isinstance" p) [e, .Name y p2] [] pos) (eInst T f) := by
  have hA : PA X [e, .Name y p2] (tCons (tO X W ms f) (tCons (tC (.ty T)) tNil)) := pa_cons he (pa_cons (pe_bltn hgy hY hT rfl hny hdy) pa_nil) hse
  refine (pe_callB call_isi hg hb (by rfl) hA (by decide) (by decide) hse hpl).weak fun σ H Q ⟨r, O, G, R, h⟩ => ?_
  unfold eInst at h
  rw [on_bind] at h
  refine tO_step R h fun o r1 v H1 O1 h1 R1 E1 p1 => ?_
  obtain ⟨d, e, h1⟩ := on_ofO h1
  obtain ⟨b, e0, rfl⟩ := Option.map_eq_some_iff.mp e
  obtain ⟨x, ex, e2⟩ := bind_some e0
  have ra := p1.get R1 ex
  have q := h1 (.bl b) H1 O1 R1 E1 (.bl b)
  unfold instT at e2
  obtain ⟨a, ea, e3⟩ := bind_some e2
  refine ⟨v, .ty T, .type a, .type T, b, rfl, .ty T, .base ?_, kit_ty e3, q⟩
  cases x <;> first | (cases ea; done) | skip
  · cases ea; rw [ra.nonI]; exact .non
  · cases ea; rw [ra.blI]; exact .bl _
  · cases ea; rw [ra.intI]; exact .int _
  · cases ea; rw [ra.strI]; exact .str _
/-! i in range(n) -/
theorem cr_range1 : CallR X (.type "range") (fun vs H Q => ∃ j, vs = [V.int j] ∧ ∀ p, H p = none → Q (.ref p) (upd H p (.rng 0 j))) := by
  intro pins s σ H vs us Q I r h
  obtain ⟨j, rfl, q⟩ := h
  obtain ⟨u1, rfl, rj⟩ := vals1 r
  obtain ⟨u, rfl⟩ := rj
  refine call_range_1 ⟨.ref s.heap.objs.size, upd H s.heap.objs.size (.rng 0 j), I.laid (t' := s.toks + 1 + 1) (fun b o e => Heap.get?_push_of_some _ e) (Nat.le_refl _) ?_, rfl, q _ (I.hok.fresh (Nat.le_refl _))⟩
  exact ⟨_, _, _, Heap.get?_push_size _ rfl⟩
def eInRng (f : Rho → R Opd) (as : Rho → R (List Opd)) : Rho → R D := fun r => (f r).bind fun o r1 => (as r1).bind fun os r2 => match o.get r2, gets r2 os with
  | some (.int i), some [.int j] => .ok (.bool (decide (0 ≤ i ∧ i < j))) r2
  | _, _ => .bad
theorem ce_inRng {a e : Expr} {f : Rho → R Opd} {as : Rho → R (List Opd)} {p p2 pos : Pos} (ha : CO X W ms a f) (hb : CA X W ms [e] as) (hm : X.mg "range" = none) (hg : Gl X "range" := by rfl)
    (hse : starEach [e] X.env = (false, eval e X.env) :: starEach [] X.env := by rfl) : CE X W ms (.Compare a [.In] [.Call (.Name "range" p) [e] [] p2] pos) (eInRng f as) := by
  have hr : PE X (.Call (.Name "range" p) [e] [] p2) (tCB (fun vs H Q => ∃ j, vs = [V.int j] ∧ ∀ p, H p = none → Q (.ref p) (upd H p (.rng 0 j))) (tA X W ms as)) := pe_callTy cr_range1 hg hm (by rfl) hb (by decide) (by decide) hse (by rfl)
  refine (pe_cmpR op_in_rng ha hr (by rfl)).weak fun σ H Q ⟨r, O, G, R, h⟩ => ?_
  unfold eInRng at h
  rw [on_bind] at h
  refine tO_step R h fun o r1 v H1 O1 h1 R1 E1 p1 => ?_
  rw [on_bind] at h1
  refine tA_step R1 (bxm E1 h1) fun os r2 vs H2 O2 h2 R2 E2 p2 => ?_
  split at h2
  · rename_i i j e1 e2
    have rx := (p1.mono E2.sm).get R2 e1
    have ry := p2.gets R2 e2
    cases ry with
    | cons ry rn =>
      cases rn
      rw [ry.intI, rx.intI]
      refine ⟨j, rfl, fun p hp => ⟨i, p, 0, j, rfl, rfl, upd_same, ?_⟩⟩
      have sm : Same H2 (upd H2 p (.rng 0 j)) := fun b u e => by rw [upd_ne (ne_of_none e hp)]; exact e
      exact h2 _ _ O2 (R2.same sm) (E1.trans (E2.trans (.same sm R2.tr))) (.bl _)
  · exact False.elim h2
end
theorem bt_tuple : bootBuiltins ("tuple" : Str) = some (.type "tuple") := by rfl
theorem bt_list : bootBuiltins ("list" : Str) = some (.type "list") := by rfl
theorem units65 {k : Nat} {A : Around} (r : Room k A) : A.units + 65 < cLine := by have := r.un; omega
/-! facts of the classes -/
theorem ec_of {K : PySem.W.Frag} {h : Heap} {mg : Str → Option Value} {x : Str} (X : K.In h) (G : h.Ns mainGlobals mg) (c1 : (He.Fa.glo x).ok K = true) (c2 : (He.Fa.exc x).ok K = true) : Ec K mg x :=
  let e := He.exc_ok c2
  ⟨He.glo_ok X G c1, e.1, e.2.1, e.2.2.1, e.2.2.2⟩
def excCB (x : Str) (K : PySem.W.Frag) : Bool :=
  He.eqO (PySem.W.findIn K (.ref (He.ga K x)) "__getattribute__") (some (some (.builtin "BaseException.__getattribute__"))) && (He.eqO (PySem.W.findIn K (.ref (He.ga K x)) "__getattr__") (some none) && (decide (PySem.W.subIn K (.ref (He.ga K x)) (.type "BaseException") = some true) && (PySem.W.hasDictIn K (He.ga K x) &&
  (He.eqO (PySem.W.findIn K (.ref (He.ga K x)) "__class__") (some (some (.builtin "object.__class__"))) && (He.eqO (PySem.W.specialIn K (.builtin "object.__class__") "__get__") (some (some (.builtin "getset_descriptor.__get__"))) && (decide (PySem.W.takesIn K (.builtin "object.__class__") = some true) && decide (PySem.W.mroIn K (He.ga K x) (.type "object") = some true)))))))
theorem excC_of {K : PySem.W.Frag} {x : Str} (c : excCB x K = true) : ExcC K (He.ga K x) := by
  unfold excCB at c
  simp only [Bool.and_eq_true] at c
  obtain ⟨c1, c2, c3, c4, c5, c6, c7, c8⟩ := c
  exact ⟨He.eqO_ok c1, He.eqO_ok c2, of_decide_eq_true c3, c4, He.eqO_ok c5, He.eqO_ok c6, of_decide_eq_true c7, of_decide_eq_true c8⟩
def kitCB (x y : Str) (b : Bool) (K : PySem.W.Frag) : Bool := decide (PySem.W.kitOne K (.ref (He.ga K x)) (.ref (He.ga K y)) = some b)
theorem kit_of' {K : PySem.W.Frag} {x y : Str} {b : Bool} (c : kitCB x y b K = true) : PySem.W.kitOne K (.ref (He.ga K x)) (.ref (He.ga K y)) = some b := of_decide_eq_true c
section
variable {K : PySem.W.Frag} {mg : Str → Option Value} {y : Value} {Y : Addr} {tab : List (Str × Bool)} {c : Str} {b : Bool} {D : Addr}
theorem lookup_cons {d : Str} {b' : Bool} (h : ((c, b) :: tab).lookup d = some b') : (d = c ∧ b' = b) ∨ tab.lookup d = some b' := by
  rw [List.lookup_cons] at h
  split at h
  · rename_i e
    exact .inl ⟨eq_of_beq e, (Option.some.inj h).symm⟩
  · exact .inr h
theorem tabOk_nil : TabOk K mg y [] := fun _ _ h => by cases h
theorem tabOk_cons (g : mg c = some (.ref D)) (m : PySem.W.exmOne K (.ref D) y = some b) (t : TabOk K mg y tab) : TabOk K mg y ((c, b) :: tab) := fun d b' h => by
  rcases lookup_cons h with ⟨rfl, rfl⟩ | h
  · exact ⟨D, g, m⟩
  · exact t d b' h
theorem isOk_nil : isTab K mg Y [] := fun _ _ h => by cases h
theorem isOk_cons (g : mg c = some (.ref D)) (m : PySem.W.kitOne K (.ref D) (.ref Y) = some b) (x : ExcC K D) (t : isTab K mg Y tab) : isTab K mg Y ((c, b) :: tab) := fun d b' h => by
  rcases lookup_cons h with ⟨rfl, rfl⟩ | h
  · exact ⟨D, g, m, x⟩
  · exact t d b' h
end
end DL
end

section
set_option maxHeartbeats 1000000
namespace DL
open PySem PySem.Spec PyProof.Rows L2
/-! the empty tuple, repeated -/
theorem tuple_mul0 (l : Addr) (n : Nat) (sl : Array (Option Value)) (dd : Option Addr) (x : Int) (u : Tok) (c0 : (decide (x < -(2 ^ 63)) || decide (x ≥ 2 ^ 63)) = false) :
    Meets (Builtin.«tuple.__mul__» ⟨[.ref l, .int x u], []⟩) (fun _ R s => s.heap.get? l = some { cls := .type "tuple", dict := dd, data := .seq #[] n, slots := sl } ∧ R (.ok (.ret (Value.ref l))) s) :=
  .of_wp fun prog w A R s h => by
    obtain ⟨hp, g, d, tk, os⟩ := s
    obtain ⟨hl, h⟩ := h
    have f1 := AutoSeq1.idx_int
    wp_walk using wpAny_loadPart' hl
    refine wpAny_ite_false (decide_eq_false (by rw [c0]; exact Bool.false_ne_true)) ?_
    wp_walk using wpAny_loadPart' hl
    exact ⟨_, rfl, h⟩
section
variable {X : Cx}
def rRep0 (K : PySem.W.Frag) : R2 := fun x y H Q => ∃ l k, x = .ref l ∧ y = .int k ∧ SqT K H l [] ∧ 2 ≤ k ∧ k ≤ 1000 ∧ Q (.ref l) H
theorem op_rep0 : OpR X (binaryOp .Mult) (rRep0 X.K) := by
  intro pins s σ H x y v u Q I rx ry h
  obtain ⟨l, k, rfl, rfl, hT, h1, h2, q⟩ := h
  cases rx
  obtain ⟨t, rfl⟩ := ry
  obtain ⟨its, r, ⟨⟨cls, dd, data, sl⟩, ho, hc, n, hd⟩, hs⟩ := I.tuple hT
  cases r
  simp only at hc hd
  subst hc hd
  have c0 : (decide (k < -(2 ^ 63)) || decide (k ≥ 2 ^ 63)) = false := by
    rw [decide_eq_false (by omega), decide_eq_false (by omega)] <;> rfl
  exact wpAny_binaryOp_repeat_ref (T := "tuple") (U := "int") (by decide) ⟨_, ho, rfl⟩ (fun s' => typeIs_int s' k t) noFill_tuple_mul F.fills_int_mul F.slot_int_rmul repeat_tuple F.slot_int_index.lookup
    (call_meets F.slot_int_rmul (typeIs_int s k t) F.entry_int_rmul (F.args_int_rmul_2 _ _) (int_rmul_tuple k t l #[] n dd sl)
      ⟨ho, rfl, ⟨_, ho, rfl⟩, call_meets F.slot_tuple_mul ⟨_, ho, rfl⟩ F.entry_tuple_mul (F.args_tuple_mul_2 _ _) (tuple_mul0 l n sl dd k t c0) ⟨ho, ⟨.ref l, H, I, rfl, q⟩⟩⟩)
def dMul3 : D → D → Option D
  | .tuple xs, .int k => if (decide (2 ≤ k) && decide (k ≤ 1000) && decide (xs.length ≤ 1000)) = true then some (.tuple (List.replicate k.toNat xs).flatten) else none
  | x, y => dMul x y
theorem or_mul3 : OpR X (binaryOp .Mult) (fun x y H Q => (rMul x y H Q ∨ rRepT X.K x y H Q) ∨ rRep0 X.K x y H Q) := or_mul2.or op_rep0
theorem flat_nil (k : Nat) : (List.replicate k ([] : List D)).flatten = [] := by
  induction k with
  | zero => rfl
  | succ k ih => rw [List.replicate_succ, List.flatten_cons, ih] <;> rfl
theorem sr_mul3 : SemR X (fun x y H Q => (rMul x y H Q ∨ rRepT X.K x y H Q) ∨ rRep0 X.K x y H Q) dMul3 := fun x y a b d H W Q ra rb tr e q => by
  by_cases h : ∃ as k, a = .tuple as ∧ b = .int k
  · obtain ⟨as, k, rfl, rfl⟩ := h
    obtain ⟨hz, rfl⟩ := ite_some e
    by_cases h0 : as = []
    · subst h0
      simp only [Bool.and_eq_true, decide_eq_true_eq] at hz
      obtain ⟨⟨h2, h3⟩, h4⟩ := hz
      have ra' := ra.pure
      obtain ⟨p, xs, rfl, hx, r1⟩ := ra.tupI
      cases r1
      rw [rb.intI]
      rw [flat_nil] at q
      exact .inr ⟨p, k, rfl, rfl, hx, h2, h3, q _ H (Same.refl _) ra'⟩
    · refine .inl (sr_mul2 x y _ _ _ H W Q ra rb tr ?_ q)
      have hne : as.isEmpty = false := by cases as <;> first | rfl | exact absurd rfl h0
      show (if (!as.isEmpty && decide (2 ≤ k) && decide (k ≤ 1000) && decide (as.length ≤ 1000)) = true then some _ else none) = _
      rw [hne, if_pos (by rw [Bool.not_false, Bool.true_and]; exact hz)]
  · have e' : dMul a b = some d := by
      unfold dMul3 at e
      split at e
      · exact absurd ⟨_, _, rfl, rfl⟩ h
      · exact e
    exact .inl (.inl (sr_mul x y a b d H W Q ra rb tr e' q))
end
end DL
end

section
set_option maxHeartbeats 1000000
namespace DL
open PySem PySem.Spec PyProof.Rows L2
/-! ## a def that is told the exception which the suite holds -/
def O0 : Own := fun _ => []
/-- p's object is of the class that c names -/
structure OfC (mg : Str → Option Value) (p : Addr × Obj) (c : Str) (D : Addr) : Prop where
  g : mg c = some (.ref D)
  z : Zc (.ref D) none p.2
  v : ∃ vs, p.2.data = .fields vs
def spE (K : PySem.W.Frag) (mg : Str → Option Value) (F : Str → Option D) (p : Addr × Obj) : Sp := fun vs H Q _ => ∃ (c : Str) (C : Addr) (G : Gh) (d : D), vs = [.ref p.1] ∧ OfC mg p c C ∧ (∀ a, G a → H a ≠ none) ∧ F c = some d ∧
  ∀ v H', Ext H O0 G H' O0 G → Rep K (msk H' (Ow O0 G)) v d → Q v H'
structure FnE (P : Program) (w : World) (K : PySem.W.Frag) (mg : Str → Option Value) (base : Heap) (k : Nat) (f : Addr) (fd : FuncData) (ps : List Str) (sp : Addr × Obj → Sp) : Prop where
  len : ∀ p vs H Q E, sp p vs H Q E → vs.length = ps.length
  run : ∀ (p : Addr × Obj) (A : Around) (outer : List Env) (s : Shared) (H : Hp) (args : Args) (us : List Value) (vs : List V) (Q : VK) (E : XK), L2H.RoomH k A → A.guards = some [] → L2H.PinOk outer H s p → Env0 P w K mg base A outer s H → BindsTo s fd args (ps.zip us) → Vals vs us →
    sp p vs H Q E → codeAny (model P w) A (.call (.ref f) args) (CR (L2.CX P w) outer P w H s Q E) s
theorem fnE_of {P : Program} {w : World} {K : PySem.W.Frag} {mg : Str → Option Value} {base : Heap} {k : Nat} {f : Addr} {name qual : Str} {params : Arguments} {body : List Stmt} {scope : Scope} {dV kV doc pm cdv ct oc : Value} {an od : Option Addr}
    {osl : Array (Option Value)} {N ps : List Str} {sp : Addr × Obj → Sp} (lk : K.lookup f = some ⟨oc, od, .func (PySem.W.fnOf name qual params body scope dV kV doc pm an cdv ct), osl⟩) (hcd : PySem.W.codeIn K cdv qual = true) (S : FnScope N ps scope)
    (len : ∀ p vs H Q E, sp p vs H Q E → vs.length = ps.length)
    (hbody : ∀ (p : Addr × Obj) (A : Around) (outer : List Env) (s : Shared) (H : Hp) (vs : List V) (Q : VK) (E : XK), L2H.RoomH k (A.deeper (envOfC qual scope s.heap.objs.size f cdv)) → (A.deeper (envOfC qual scope s.heap.objs.size f cdv)).guards = some [] → sp p vs H Q E →
      ∃ t, PSs (L2H.cxH (L2.CX P w) P w K mg base N qual scope f cdv A outer s H E p) body t ∧ t { nx := fun _ H' => Q .non H', rt := Q } (start N vs) H) :
    FnE P w K mg base (k + 1) f (PySem.W.fnOf name qual params body scope dV kV doc pm an cdv ct) ps sp := by
  refine ⟨len, fun p A outer s H args us vs Q E hr hgd hpin e0 hb r hsp => ?_⟩
  have hl := len _ _ _ _ _ hsp
  have KX : K.In s.heap := e0.mod.kin.keeps fun b o e => (e0.bs b o e).1
  have lim : s.heap.NoLimit := e0.mod.nolimit.keeps fun b o e => (e0.bs b o e).1
  have hkind : ∀ y ∈ ps.zip us, scope.names.lookup y.1 = some .local ∨ (scope.names.lookup y.1 = some .cell ∧ ((cellsFrom (s.heap.objs.size + 1) scope.names []).lookup y.1).isSome = true) := fun ⟨n, v⟩ hy => by
    rcases S.par n (List.of_mem_zip hy).1 with q | q
    · exact .inl q
    · exact .inr ⟨q, PySem.W.cellsFrom_some _ _ _ (.inl q)⟩
  refine codeAny_call_function hr.depth (KX _ _ lk) rfl S.co S.gen rfl (PySem.W.codeRec_of KX hcd) (hb _ _ _ _ ?_)
  refine wpAny_newFunctionEnv_cells S.kind hkind fun env he s1 x => ?_
  subst he
  refine ⟨lim.keeps x.toInCall.keep, codeAny_func ?_⟩
  obtain ⟨t, ht, hq⟩ := hbody p A outer s H vs Q E (hr.deeper _) hgd hsp
  have I : Inv (L2H.cxH (L2.CX P w) P w K mg base N qual scope f cdv A outer s H E p) [] (start N vs) H s1 := L2H.inv_startH S hpin e0 hl r x
  refine wpAny_mono (ht.run [] s1 (start N vs) H _ I hq) (fun fl s' hs => ?_) fun e s' hs => hs
  have fin : ∀ {σ' : L2.St} {H' : Hp} {v : V} {u : Value}, Inv (L2H.cxH (L2.CX P w) P w K mg base N qual scope f cdv A outer s H E p) [] σ' H' s' → RelV v u → Q v H' → L2.CE outer P w H s Q u s' :=
    fun {σ' H' v u} J rv q => ⟨v, H', J.os, J.bare, J.base, J.hok, rv, q⟩
  cases fl with
  | ret u =>
    obtain ⟨v, σ', H', J, rv, q⟩ := hs
    exact fin J rv q
  | next =>
    obtain ⟨σ', H', J, q⟩ := hs
    exact fin (v := V.non) (u := Value.none) J rfl q
  | brk =>
    obtain ⟨_, _, _, q⟩ := hs
    exact False.elim q
  | cont =>
    obtain ⟨_, _, _, q⟩ := hs
    exact False.elim q
def bodyE (m : Nat) (g : Str → Rho → SR) : Str → Option D := fun c => match g c (some (excV c) :: List.replicate m none) with
  | .rt d _ => some d
  | .nx _ => some .none
  | _ => none
theorem Rel.startE {K : PySem.W.Frag} {H : Hp} {G : Gh} {ms : Ms} {N : List Str} {a : Addr} {c : Str} {m : Nat} (tr : ∀ b, G b → H b ≠ none) (hN : N.length - 1 = m) : Rel K (msX ms 0 a) (L2.start N [.ref a]) H (some (excV c) :: List.replicate m none) O0 G := by
  refine ⟨?_, fun i d e => ?_, fun i _ => rfl, tr, (fun _ _ _ h => by cases h), (fun _ _ h => by cases h)⟩
  · unfold L2.start
    rw [List.length_append, List.length_map, List.length_replicate, List.length_cons, List.length_replicate]
    show m + 1 = 1 + (N.length - 1)
    omega
  · cases i with
    | zero =>
      cases e
      exact ⟨.ref a, rfl, by rw [msX_same]; exact .exn⟩
    | succ i =>
      rw [List.getElem?_cons_succ, List.getElem?_replicate] at e
      split at e <;> cases e
theorem fnE_body {P : Program} {w : World} {K : PySem.W.Frag} {mg : Str → Option Value} {base : Heap} {k : Nat} {f : Addr} {fd : FuncData} {x qual : Str} {params : Arguments} {body : List Stmt} {scope : Scope} {dvs : List V} {kws : List (Str × V)}
    {N : List Str} {y : Str} {ms : Ms} {m : Nat} {g : Str → Rho → SR} (FD : FunD K x qual params body scope dvs kws f fd) (S : FnScope N [y] scope) (hm : N.length - 1 = m)
    (hb : ∀ (p : Addr × Obj) (c : Str) (C : Addr) (cdv : Value) (A : Around) (outer : List Env) (s : Shared) (H : Hp) (E : XK), OfC mg p c C → L2H.RoomH k (A.deeper (envOfC qual scope s.heap.objs.size f cdv)) → (A.deeper (envOfC qual scope s.heap.objs.size f cdv)).guards = some [] →
      CSs (L2H.cxH (L2.CX P w) P w K mg base N qual scope f cdv A outer s H E p) W0 (msX ms 0 p.1) .pur body (g c)) :
    FnE P w K mg base (k + 1) f fd [y] (spE K mg (bodyE m g)) := by
  obtain ⟨oc, od, dV, kV, doc, pmv, an, cdv, ct, osl, rfl, lk, hcd, _, _⟩ := FD.ex
  refine fnE_of lk hcd S (fun p vs H Q E ⟨c, C, G, d, h1, _⟩ => by rw [h1] <;> rfl) fun p A outer s H vs Q E hr hgd ⟨c, C, G, d, hv, oc, tr, hF, h⟩ => ?_
  subst hv
  refine ⟨_, hb p c C cdv A outer s H E oc hr hgd, some (excV c) :: List.replicate m none, O0, G, Rel.startE tr hm, ?_⟩
  unfold bodyE at hF
  have less : ∀ {O' : Own} (a : Addr), Ow O0 G a → Ow O' G a := fun a z => z.elim .inl (fun ⟨_, h⟩ => by cases h)
  cases e : g c (some (excV c) :: List.replicate m none) with
  | rt d' r =>
    rw [e] at hF
    cases hF
    intro v σ' H' O' B R' E' n' F' rp
    obtain ⟨rfl, rp⟩ := rp.purI
    rw [ga_nil] at rp E'
    exact h v H' ⟨E'.sm.trans (msk_less less), E'.gh⟩ (rp.mono (msk_less less))
  | nx r =>
    rw [e] at hF
    cases hF
    intro σ' H' O' R' E' F'
    exact h .non H' ⟨E'.sm.trans (msk_less less), E'.gh⟩ .non
  | _ => rw [e] at hF; cases hF
/-- the def x of the module keeps its promise about exceptions -/
def OkE (P : Program) (w : World) (K : PySem.W.Frag) (mg : Str → Option Value) (base : Heap) (k : Nat) (x y : Str) (F : Str → Option D) : Prop :=
  ∃ fd, mg x = some (.ref (He.ga K x)) ∧ PySem.W.keepIn K (.ref (He.ga K x)) = true ∧ Binds K fd [y] [] ∧ FnE P w K mg base k (He.ga K x) fd [y] (spE K mg F)
theorem okE_of {P : Program} {w : World} {K : PySem.W.Frag} {mg : Str → Option Value} {base : Heap} {k : Nat} {x y : Str} {st : Stmt} {N : List Str} {ms : Ms} {m : Nat} {g : Str → Rho → SR} (a : At K mg x st) (S : FnScope N [y] (defScope st))
    (hbind : ∀ (kV doc pm : Value) (an : Option Addr) (cdv ct : Value) (us : List Value), us.length = [y].length → bindArgs (PySem.W.fnOf x x (defArgs st) (defBody st) (defScope st) .none kV doc pm an cdv ct) ⟨us, []⟩ = pure ([y].zip us))
    (hm : N.length - 1 = m)
    (hb : ∀ (p : Addr × Obj) (c : Str) (C : Addr) (cdv : Value) (A : Around) (outer : List Env) (s : Shared) (H : Hp) (E : XK), OfC mg p c C → L2H.RoomH k (A.deeper (envOfC x (defScope st) s.heap.objs.size (He.ga K x) cdv)) → (A.deeper (envOfC x (defScope st) s.heap.objs.size (He.ga K x) cdv)).guards = some [] →
      CSs (L2H.cxH (L2.CX P w) P w K mg base N x (defScope st) (He.ga K x) cdv A outer s H E p) W0 (msX ms 0 p.1) .pur (defBody st) (g c)) :
    OkE P w K mg base (k + 1) x y (bodyE m g) := by
  obtain ⟨hx, fd, F⟩ := a
  exact ⟨fd, hx, F.kp, binds_of F hbind, fnE_body F S hm hb⟩
def eFnE (i : Nat) (o : Option D) : Rho → R D := fun r => match (r[i]?).join with
  | some (.dict _) => .ofO o r
  | _ => .bad
section
variable {X : Cx} {W : WX} {ms : Ms}
theorem ce_callE {a C : Addr} {oe : Obj} {pn : List (Addr × Obj)} {k j i : Nat} {c x y n : Str} {F : Str → Option D} {p p1 pos : Pos} (h : OkE X.prog X.w X.K X.mg X.base j x y F) (hr : Room k X.A) (hgd : X.A.guards = some []) (hj : j ≤ k) (hD : X.mg c = some (.ref C)) (hz : Zc (.ref C) none oe) (hv : ∃ vs, oe.data = .fields vs)
    (hsh : (ms i).sh = .exn a) (hi : X.N[i]? = some n := by rfl) (hvis : Vis X.env.scope n := by first | exact .inl rfl | exact .inr (.inl rfl)) (hg : Gl X x := by rfl) (hdb : (x == ("__debug__" : Str)) = false := by decide) (hdn : (n == ("__debug__" : Str)) = false := by decide) (hcn : (n == ("__classdict__" : Str)) = false := by decide)
    (he : starEach [.Name n p1] X.env = (false, eval (.Name n p1) X.env) :: starEach [] X.env := by rfl) :
    CE (X.suite a ((a, oe) :: pn)) W ms (.Call (.Name x p) [.Name n p1] [] pos) (eFnE i (F c)) := by
  obtain ⟨fd, h1, h2, h3, h4⟩ := h
  refine ⟨fun pins s σ H Q I ⟨r, O, G, R, q⟩ => ?_⟩
  unfold eFnE at q
  have hA : PA (X.suite a ((a, oe) :: pn)) [.Name n p1] (tCons (tVar i) tNil) := pa_cons (pe_var (X := X.suite a ((a, oe) :: pn)) hi hvis hdn hcn) pa_nil
  cases e : (r[i]?).join with
  | none => rw [e] at q; exact False.elim q
  | some d0 =>
    rw [e] at q
    obtain ⟨v, e1, rs⟩ := R.slot i d0 (join_some e)
    rw [hsh] at rs
    obtain ⟨rfl, c', rfl⟩ := rs.exnI
    simp only at q
    obtain ⟨d, eF, q⟩ := on_ofO q
    refine wpAny_Call_Name_kw (ld_glob (X := X.suite a ((a, oe) :: pn)) I hg h1 ?_ hdb)
    refine PySem.W.callWith_K (h₀ := X.base) I.ok.mod.kin h2 (thn (hA.run pos pins s σ H (fun vs H1 => vs = [V.ref a] ∧ H = H1) I ⟨_, e1, rfl, rfl⟩) fun us s1 ⟨vs, H1, I1, rv, ev, eH⟩ => ?_) he (by rfl)
    subst ev
    rw [← eH] at I1
    refine ⟨I1.kIn, ?_⟩
    have P1 := I1.pin (a, oe) (List.mem_append_left _ List.mem_cons_self)
    have hpin : L2H.PinOk X.stack H s1 (a, oe) := ⟨P1.1, P1.2.1, fun hm => (List.mem_cons.mp (I1.stkSub a hm)).elim P1.2.2.1 P1.2.2.2.1, P1.2.2.2.2⟩
    have b := h3 s1 us I1.kIn (by rw [List.append_nil, ← rv.length] <;> rfl)
    rw [List.append_nil] at b
    have rr : L2H.RoomH j (X.A.mark (some (.ref a))) := (L2H.roomH_of (hr.mono hj) : L2H.RoomH j X.A) |> fun z => ⟨z.dp, z.un⟩
    refine wpAny_call (codeAny_mono (h4.run (a, oe) _ _ s1 H ⟨us, []⟩ us _ Q (fun _ _ _ => False) rr hgd hpin I1.env0 b rv ⟨c, C, Ow O G, d, rfl, ⟨hD, hz, hv⟩, R.trO, eF, fun v H' E rp => ?_⟩) fun r' s' hq => ?_)
    · have O0e : Ow O0 (Ow O G) = Ow O G := funext fun b => propext ⟨(fun z => z.elim id (fun ⟨_, w⟩ => by cases w)), fun z => .inl z⟩
      have E1 := E.sm
      rw [O0e] at E1 rp
      have keep : ∀ b, Ow O G b → H' b = H b := fun b z => (E.gh b z).2
      have R' : Rel X.K ms σ H' r O G := ⟨R.len, fun i d e => by
        obtain ⟨v, e1, rs⟩ := R.slot i d e
        exact ⟨v, e1, rs.mono E1 fun b hb o ho => by rw [keep b (.inr ⟨i, hb⟩)]; exact ho⟩, R.emp, fun b g => by rw [keep b (.inl g)]; exact R.tr b g, R.dj, R.dG⟩
      exact q v H' O R' ⟨E1, fun b g => ⟨g, keep b (.inl g)⟩⟩ rp
    · cases r' with
      | error e =>
        obtain ⟨_, _, _, _, _, _, _, _, _, _, _, _, z⟩ := hq
        exact z.elim
      | ok fl =>
        cases fl with
        | ret u => exact I1.after hq
        | next => exact False.elim hq
        | brk => exact False.elim hq
        | cont => exact False.elim hq
/-! isinstance(e, Y), e an exception that is pinned -/
theorem call_isP {a D : Addr} {oe : Obj} (C : ExcC X.K D) (hp : (a, oe) ∈ X.pn) (hz : Zc (.ref D) none oe) (hf : ∃ vs, oe.data = .fields vs) : CallR X (.builtin "isinstance") (rIsE X.K D a) := by
  intro pins s σ H xs us Q I r h
  obtain ⟨c, cv, b, rfl, hcv, e, q⟩ := h
  cases r with
  | cons rx rr =>
    cases rr with
    | cons rt rr =>
      cases rr
      cases rx
      have ec := hcv _ rt
      subst ec
      obtain ⟨hget, _⟩ := I.pin (a, oe) (List.mem_append_left _ hp)
      obtain ⟨vs, hv⟩ := hf
      have J : PySem.W.InstAt s.heap a oe D none := by
        obtain ⟨oc, od, oda, osl⟩ := oe
        obtain ⟨z1, z2⟩ := hz
        dsimp only at z1 z2 hv
        subst z1 z2 hv
        exact ⟨hget, rfl, rfl, trivial⟩
      exact PySem.W.kia_one (PySem.W.handS_kitx_exc C.hg C.hk C.hs C.hd C.ha C.hn C.ht C.hm) I.kIn J e (fun z => nomatch z) fun tk => ⟨.bl b, H, I.kept (t' := tk) fun _ _ z => z, rfl, q⟩
theorem ce_isP {a D Y : Addr} {oe : Obj} {i : Nat} {c n y : Str} {tab : List (Str × Bool)} {p p1 p2 pos : Pos} (hp : (a, oe) ∈ X.pn) (hD : X.mg c = some (.ref D)) (hz : Zc (.ref D) none oe) (hv : ∃ vs, oe.data = .fields vs) (hY : X.mg y = some (.ref Y)) (ht : isTab X.K X.mg Y tab)
    (hb : X.mg "isinstance" = none) (hsh : (ms i).sh = .exn a) (hi : X.N[i]? = some n := by rfl) (hvis : Vis X.env.scope n := by first | exact .inl rfl | exact .inr (.inl rfl)) (hg : Gl X "isinstance" := by rfl) (hgy : Gl X y := by rfl) (hdy : (y == ("__debug__" : Str)) = false := by decide) (hdn : (n == ("__debug__" : Str)) = false := by decide) (hcn : (n == ("__classdict__" : Str)) = false := by decide)
    (he : starEach [.Name n p1, .Name y p2] X.env = (false, eval (.Name n p1) X.env) :: starEach [.Name y p2] X.env := by rfl) (hpl : (backTo pos (starEach [.Name y p2] X.env)).any (·.1) = false := by rfl) :
    CE X W ms (.Call (.Name "isinstance" p) [.Name n p1, .Name y p2] [] pos) (eIsE i c tab) := by
  by_cases hx : ∃ b, tab.lookup c = some b
  · obtain ⟨b, hb1⟩ := hx
    obtain ⟨D', g1, g2, g3⟩ := ht c b hb1
    rw [hD] at g1
    cases g1
    have hA : PA X [.Name n p1, .Name y p2] (tCons (tVar i) (tCons (tC (.ref Y)) tNil)) := pa_cons (pe_var hi hvis hdn hcn) (pa_cons (pe_glob hgy hY rfl hdy) pa_nil)
    refine (pe_callB (call_isP g3 hp hz hv) hg hb (by rfl) hA (by decide) (by decide) he hpl).weak fun σ H Q ⟨r, O, G, R, h⟩ => ?_
    unfold eIsE at h
    cases e : (r[i]?).join with
    | none => rw [e] at h; exact False.elim h
    | some d =>
      rw [e] at h
      obtain ⟨v, e1, rs⟩ := R.slot i d (join_some e)
      rw [hsh] at rs
      obtain ⟨rfl, c', rfl⟩ := rs.exnI
      simp only [hb1, Option.map_some] at h
      exact ⟨.ref a, e1, ⟨.ref Y, .ref Y, b, rfl, fun u q => q, g2, h (.bl b) H O R .refl (.bl b)⟩⟩
  · refine ⟨fun pins s σ H Q I ⟨r, O, G, R, h⟩ => ?_⟩
    unfold eIsE at h
    have hn : tab.lookup c = none := by
      cases e : tab.lookup c with
      | none => rfl
      | some b => exact absurd ⟨b, e⟩ hx
    rw [hn] at h
    exfalso
    cases e : (r[i]?).join with
    | none => rw [e] at h; exact h
    | some d => rw [e] at h; cases d <;> exact h
end
theorem _root_.L2.Room.units65 {k : Nat} {A : Around} (r : Room k A) : A.units + 65 < cLine := by have := r.un; omega
theorem _root_.L2H.RoomH.units65 {k : Nat} {A : Around} (r : L2H.RoomH k A) : A.units + 65 < cLine := by have := r.un; omega
theorem _root_.L2H.RoomH.units {k : Nat} {A : Around} (r : L2H.RoomH k A) : A.units + 64 < cLine := by have := r.un; omega
/-! min, max of two numbers -/
def cMin : List D → Option D
  | [.int i, .int j] => some (.int (if j < i then j else i))
  | _ => none
def cMax : List D → Option D
  | [.int i, .int j] => some (.int (if j > i then j else i))
  | _ => none
theorem two_ints {X : Cx} {H : Hp} {W : Gh} {xs : List V} {ds : List D} (rs : RepBs X.K (msk H W) H xs ds) {i j : Int} (e : ds = [.int i, .int j]) : xs = [.int i, .int j] := by
  subst e
  cases rs with
  | cons a b =>
    cases b with
    | cons b c =>
      cases c
      rw [a.intI, b.intI]
theorem sc_min {X : Cx} : SemC X (fun xs H Q => ∃ i j, xs = [.int i, .int j] ∧ Q (.int (if j < i then j else i)) H) cMin := fun xs ds d H W Q rs tr e q => by
  unfold cMin at e
  split at e
  · cases e
    exact ⟨_, _, two_ints rs rfl, q _ H (Same.refl _) (.int _)⟩
  · cases e
theorem sc_max {X : Cx} : SemC X (fun xs H Q => ∃ i j, xs = [.int i, .int j] ∧ Q (.int (if j > i then j else i)) H) cMax := fun xs ds d H W Q rs tr e q => by
  unfold cMax at e
  split at e
  · cases e
    exact ⟨_, _, two_ints rs rfl, q _ H (Same.refl _) (.int _)⟩
  · cases e
theorem bt_min : bootBuiltins ("min" : Str) = some (.builtin "min") := by rfl
theorem bt_max : bootBuiltins ("max" : Str) = some (.builtin "max") := by rfl
/-! list + list -/
def rCatL : R2 := fun x y H Q => ∃ l b xs zs, x = .ref l ∧ y = .ref b ∧ Rd H l (.lst xs) ∧ Rd H b (.lst zs) ∧ xs.length + zs.length ≤ sizeLine ∧ ∀ p, H p = none → Q (.ref p) (upd H p (.lst (xs ++ zs)))
theorem op_catL {X : Cx} : OpR X (binaryOp .Add) rCatL := by
  intro pins s σ H x y v u Q I rx ry h
  obtain ⟨l, b, xs, zs, rfl, rfl, hH, hB, hz, q⟩ := h
  cases rx
  cases ry
  obtain ⟨_, its, n, r, e⟩ := hH.ok I.hok
  obtain ⟨_, its2, n2, r2, e2⟩ := hB.ok I.hok
  have l1 := r.length
  have l2 := r2.length
  refine PySem.P.add_list e e2 ?_ (by rw [List.size_toArray, List.size_toArray]; omega)
  rw [show its.toArray ++ its2.toArray = (its ++ its2).toArray by simp]
  exact ⟨.ref _, _, I.lnew (t' := s.toks) (r.append r2) (by rw [List.length_append]; omega), rfl, q _ I.fresh⟩
def dAdd4 : D → D → Option D
  | .list a, .list b => if a.length + b.length ≤ sizeLine then some (.list (a ++ b)) else none
  | x, y => dAdd2 x y
theorem or_add4 {X : Cx} : OpR X (binaryOp .Add) (fun x y H Q => (rAdd x y H Q ∨ rCatA X.K x y H Q) ∨ rCatL x y H Q) := or_add2.or op_catL
theorem sr_add4 {X : Cx} : SemR X (fun x y H Q => (rAdd x y H Q ∨ rCatA X.K x y H Q) ∨ rCatL x y H Q) dAdd4 := fun x y a b d H W Q ra rb tr e q => by
  by_cases h : ∃ as bs, a = .list as ∧ b = .list bs
  · obtain ⟨as, bs, rfl, rfl⟩ := h
    obtain ⟨hz, rfl⟩ := ite_some e
    obtain ⟨p, xs, rfl, h1, r1⟩ := ra.lstI
    obtain ⟨p', ys, rfl, h2, r2⟩ := rb.lstI
    exact .inr ⟨p, p', xs, ys, rfl, rfl, h1, h2, by rw [r1.len, r2.len]; exact hz, fun l hl => let n := new_lst tr hl (r1.append r2); q _ _ n.1 n.2⟩
  · have e' : dAdd2 a b = some d := by
      unfold dAdd4 at e
      split at e
      · exact absurd ⟨_, _, rfl, rfl⟩ h
      · exact e
    exact .inl (sr_add2 x y a b d H W Q ra rb tr e' q)
/-! a tuple, repeated more often -/
def rRepW (K : PySem.W.Frag) : R2 := fun x y H Q => ∃ l k xs, x = .ref l ∧ y = .int k ∧ SqT K H l xs ∧ xs ≠ [] ∧ 2 ≤ k ∧ k ≤ 10000 ∧ xs.length ≤ 1000 ∧ ∀ p, H p = none → Q (.ref p) (upd H p (.tup (List.replicate k.toNat xs).flatten))
theorem op_repW {X : Cx} : OpR X (binaryOp .Mult) (rRepW X.K) := by
  intro pins s σ H x y v u Q I rx ry h
  obtain ⟨l, k, xs, rfl, rfl, hT, hne, h1, h2, hz, q⟩ := h
  cases rx
  obtain ⟨t, rfl⟩ := ry
  obtain ⟨its, r, ⟨⟨cls, dd, data, sl⟩, ho, hc, n, hd⟩, hs⟩ := I.tuple hT
  simp only at hc hd
  subst hc hd
  have hle : its.length = xs.length := r.length.symm
  have hi : its.toArray.isEmpty = false := by
    cases its with
    | nil => exact absurd (List.eq_nil_of_length_eq_zero hle.symm) hne
    | cons a b => rfl
  have hsz0 : its.toArray.size = xs.length := by rw [List.size_toArray, hle]
  have big : k.toNat * xs.length ≤ 10000 * 1000 := Nat.mul_le_mul (by omega) hz
  have hm : ((its.toArray.size : Nat) : Int) * k ≤ 10000000 := by
    have a1 : ((xs.length : Nat) : Int) * k ≤ 1000 * k := Int.mul_le_mul_of_nonneg_right (by omega) (by omega)
    rw [hsz0]; omega
  have fl : (List.replicate k.toNat its).flatten.length ≤ sizeLine := by
    rw [PyProof.Rows.lm_len_rep_flat, hle, sizeLine_eq]; omega
  have c0 : (decide (k < -(2 ^ 63)) || decide (k ≥ 2 ^ 63)) = false := by rw [decide_eq_false (by omega), decide_eq_false (by omega)] <;> rfl
  have c1 : (its.toArray.isEmpty || k == 1) = false := by rw [hi, Bool.false_or]; exact beq_eq_false_iff_ne.mpr (by omega)
  have c2 : (decide (k ≤ 0) || its.toArray.isEmpty) = false := by rw [hi, Bool.or_false]; exact decide_eq_false (by omega)
  have c4 : Builtin.Tuple.tupleTooMany (((its.toArray.size : Nat) : Int) * k) = false := by
    unfold Builtin.Tuple.tupleTooMany
    rw [sizeLine_eq]; exact decide_eq_false (by omega)
  have mm := tuple_mulW l its.toArray n dd sl k t c0 c1 c2 (by omega) c4 (by rw [size_rep, List.size_toArray]; exact fl)
  refine wpAny_binaryOp_repeat_ref (T := "tuple") (U := "int") (by decide) ⟨_, ho, rfl⟩ (fun s' => typeIs_int s' k t) noFill_tuple_mul F.fills_int_mul F.slot_int_rmul repeat_tuple F.slot_int_index.lookup (call_meets F.slot_int_rmul (typeIs_int s k t) F.entry_int_rmul (F.args_int_rmul_2 _ _) (int_rmul_tuple k t l its.toArray n dd sl) ⟨ho, rfl, ⟨_, ho, rfl⟩, call_meets F.slot_tuple_mul ⟨_, ho, rfl⟩ F.entry_tuple_mul (F.args_tuple_mul_2 _ _) mm ⟨ho, ?_⟩⟩)
  rw [size_rep]
  refine ⟨.ref s.heap.objs.size, _, I.laid (t' := s.toks) (o := .tup (List.replicate k.toNat xs).flatten) (fun _ _ z => Heap.get?_push_of_some _ z) (Nat.le_refl _) ?_, rfl, q _ (I.hok.fresh (Nat.le_refl _))⟩
  exact ⟨by rw [PyProof.Rows.lm_len_rep_flat, sizeLine_eq]; omega, _, r.rep k.toNat, IsTup.new _ _⟩
def dMul5 : D → D → Option D
  | .tuple xs, .int k => if (decide (2 ≤ k) && decide (k ≤ 10000) && decide (xs.length ≤ 1000)) = true then some (.tuple (List.replicate k.toNat xs).flatten) else none
  | x, y => dMul x y
def rRep1 (K : PySem.W.Frag) : R2 := fun x y H Q => ∃ l k, x = .ref l ∧ y = .int k ∧ SqT K H l [] ∧ 2 ≤ k ∧ k ≤ 10000 ∧ Q (.ref l) H
theorem op_rep1 {X : Cx} : OpR X (binaryOp .Mult) (rRep1 X.K) := by
  intro pins s σ H x y v u Q I rx ry h
  obtain ⟨l, k, rfl, rfl, hT, h1, h2, q⟩ := h
  cases rx
  obtain ⟨t, rfl⟩ := ry
  obtain ⟨its, r, ⟨⟨cls, dd, data, sl⟩, ho, hc, n, hd⟩, hs⟩ := I.tuple hT
  cases r
  simp only at hc hd
  subst hc hd
  have c0 : (decide (k < -(2 ^ 63)) || decide (k ≥ 2 ^ 63)) = false := by rw [decide_eq_false (by omega), decide_eq_false (by omega)] <;> rfl
  exact wpAny_binaryOp_repeat_ref (T := "tuple") (U := "int") (by decide) ⟨_, ho, rfl⟩ (fun s' => typeIs_int s' k t) noFill_tuple_mul F.fills_int_mul F.slot_int_rmul repeat_tuple F.slot_int_index.lookup
    (call_meets F.slot_int_rmul (typeIs_int s k t) F.entry_int_rmul (F.args_int_rmul_2 _ _) (int_rmul_tuple k t l #[] n dd sl)
      ⟨ho, rfl, ⟨_, ho, rfl⟩, call_meets F.slot_tuple_mul ⟨_, ho, rfl⟩ F.entry_tuple_mul (F.args_tuple_mul_2 _ _) (tuple_mul0 l n sl dd k t c0) ⟨ho, ⟨.ref l, H, I, rfl, q⟩⟩⟩)
theorem or_mul5 {X : Cx} : OpR X (binaryOp .Mult) (fun x y H Q => (rMul x y H Q ∨ rRepW X.K x y H Q) ∨ rRep1 X.K x y H Q) := (or_mul.or op_repW).or op_rep1
theorem sr_mul5 {X : Cx} : SemR X (fun x y H Q => (rMul x y H Q ∨ rRepW X.K x y H Q) ∨ rRep1 X.K x y H Q) dMul5 := fun x y a b d H W Q ra rb tr e q => by
  by_cases h : ∃ as k, a = .tuple as ∧ b = .int k
  · obtain ⟨as, k, rfl, rfl⟩ := h
    obtain ⟨hz, rfl⟩ := ite_some e
    simp only [Bool.and_eq_true, decide_eq_true_eq] at hz
    obtain ⟨⟨h2, h3⟩, h4⟩ := hz
    have ra' := ra.pure
    obtain ⟨p, xs, rfl, hx, r1⟩ := ra.tupI
    rw [rb.intI]
    by_cases h0 : as = []
    · subst h0
      cases r1
      rw [flat_nil] at q
      exact .inr ⟨p, k, rfl, rfl, hx, h2, h3, q _ H (Same.refl _) ra'⟩
    · refine .inl (.inr ⟨p, k, xs, rfl, rfl, hx, fun z => ?_, h2, h3, by rw [r1.len]; exact h4, fun l hl => let n := new_tup tr hl (r1.rep _); q _ _ n.1 n.2⟩)
      subst z
      cases r1
      exact h0 rfl
  · have e' : dMul a b = some d := by
      unfold dMul5 at e
      split at e
      · exact absurd ⟨_, _, rfl, rfl⟩ h
      · exact e
    exact .inl (.inl (sr_mul x y a b d H W Q ra rb tr e' q))
/-! a pair of names as a target -/
theorem cg_two {X : Cx} {ms : Ms} {K : PySem.W.Frag} (i j : Nat) {x y : Str} {k : Nat} {p1 p2 pos : Pos} (nd : X.N.Nodup) (hc : X.calm = true := by rfl) (hs : (ms i).sh = .pur := by rfl) (hf : (ms i).fx = false := by rfl) (hi : X.N[i]? = some x := by rfl) (hx : Loc X.env.scope x := by first | exact .inl rfl | exact .inr rfl)
    (hfn : X.fn x = true ∨ X.env.scope.names.lookup x = some .local := by first | exact .inl rfl | exact .inr rfl | assumption) (hs' : (ms j).sh = .pur := by rfl) (hf' : (ms j).fx = false := by rfl) (hi' : X.N[j]? = some y := by rfl) (hx' : Loc X.env.scope y := by first | exact .inl rfl | exact .inr rfl)
    (hfn' : X.fn y = true ∨ X.env.scope.names.lookup y = some .local := by first | exact .inl rfl | exact .inr rfl | assumption) (hK : X.K = K := by rfl) : CG X ms (.Tuple [.Name x p1, .Name y p2] k pos) [i, j] (kTup 2 (kCons (kName i) (kCons (kName j) kNil))) (gTup K 2 (gCons (gName i) (gCons (gName j) gNil))) := by
  subst hK
  exact cg_tup hc (cgs_cons (cg_name i nd hs hf hi hx hfn) (cgs_cons (cg_name j nd hs' hf' hi' hx' hfn') cgs_nil))
end DL
end

section
set_option maxHeartbeats 1000000
namespace DL
open PySem PySem.Spec PyProof.Rows L2
/-! a target of several names: of a tuple or a list -/
def kSeq (n : Nat) (l : List D → Rho → Option Rho) : D → Rho → Option Rho := fun d r => match d with
  | .tuple ds => if ds.length = n then l ds r else none
  | .list ds => if ds.length = n then l ds r else none
  | _ => none
def gSeq (K : PySem.W.Frag) (n : Nat) (t : TGs) : TG := fun v σ H Q => gTup K n t v σ H Q ∨ gLst K n t v σ H Q
section
variable {X : Cx} {ms : Ms}
theorem cg_seq {K : PySem.W.Frag} {es : List Expr} {is : List Nat} {k : Nat} {l : List D → Rho → Option Rho} {gs : TGs} {n : Nat} {pos : Pos} (hc : X.calm = true) (h : CGs X ms es is l gs)
    (hn : (assignEach es X.env).length = n := by rfl) (hst : (assignEach es X.env).findIdx? (·.1) = none := by rfl) (hK : X.K = K := by rfl) : CG X ms (.Tuple es k pos) is (kSeq n l) (gSeq K n gs) := by
  subst hK
  refine ⟨⟨fun pins s σ H v u Q I r q => q.elim ((pg_tup hc h.1 hn hst).run pins s σ H v u Q I r) ((pg_lst hc h.1 hn hst).run pins s σ H v u Q I r)⟩, fun {σ H r O G v d r' Q} R hl rp e q => ?_⟩
  cases rp with
  | tup ht ra =>
    rename_i a xs ds
    have e : (if ds.length = n then l ds r else none) = some r' := e
    split at e
    · rename_i hz
      exact .inl ⟨a, xs, rfl, DL.Same.tup msk_sub ht, by rw [ra.len]; exact hz, h.2 R hl ra e q⟩
    · cases e
  | lst ht ra =>
    rename_i a xs ds
    have e : (if ds.length = n then l ds r else none) = some r' := e
    split at e
    · rename_i hz
      exact .inr ⟨a, xs, rfl, .inl (DL.Same.rd msk_sub ht), by rw [ra.len]; exact hz, h.2 R hl ra e q⟩
    · cases e
  | _ => cases e
theorem cg_two2 {K : PySem.W.Frag} (i j : Nat) {x y : Str} {k : Nat} {p1 p2 pos : Pos} (nd : X.N.Nodup) (hc : X.calm = true := by rfl) (hs : (ms i).sh = .pur := by rfl) (hf : (ms i).fx = false := by rfl) (hi : X.N[i]? = some x := by rfl) (hx : Loc X.env.scope x := by first | exact .inl rfl | exact .inr rfl)
    (hfn : X.fn x = true ∨ X.env.scope.names.lookup x = some .local := by first | exact .inl rfl | exact .inr rfl | assumption) (hs' : (ms j).sh = .pur := by rfl) (hf' : (ms j).fx = false := by rfl) (hi' : X.N[j]? = some y := by rfl) (hx' : Loc X.env.scope y := by first | exact .inl rfl | exact .inr rfl)
    (hfn' : X.fn y = true ∨ X.env.scope.names.lookup y = some .local := by first | exact .inl rfl | exact .inr rfl | assumption) (hK : X.K = K := by rfl) : CG X ms (.Tuple [.Name x p1, .Name y p2] k pos) [i, j] (kSeq 2 (kCons (kName i) (kCons (kName j) kNil))) (gSeq K 2 (gCons (gName i) (gCons (gName j) gNil))) :=
  cg_seq hc (cgs_cons (cg_name i nd hs hf hi hx hfn) (cgs_cons (cg_name j nd hs' hf' hi' hx' hfn') cgs_nil)) (hK := hK)
end
end DL
end

section
namespace DL
open PySem PySem.Spec PyProof.Rows L2 TL
/-! evaluation, for simp -/
section
variable {α β : Type}
@[simp] theorem bind_ok (a : α) (r : Rho) (k : α → Rho → R β) : (R.ok a r).bind k = k a r := Eq.trans rfl rfl
@[simp] theorem bind_exc (c : Str) (x : D) (r : Rho) (k : α → Rho → R β) : (R.exc c x r).bind k = .exc c x r := Eq.trans rfl rfl
@[simp] theorem bind_bad (k : α → Rho → R β) : (R.bad).bind k = .bad := Eq.trans rfl rfl
@[simp] theorem sbind_nx (r : Rho) (k : Rho → SR) : (SR.nx r).bind k = k r := Eq.trans rfl rfl
@[simp] theorem sbind_rt (d : D) (r : Rho) (k : Rho → SR) : (SR.rt d r).bind k = .rt d r := Eq.trans rfl rfl
@[simp] theorem sbind_bk (r : Rho) (k : Rho → SR) : (SR.bk r).bind k = .bk r := Eq.trans rfl rfl
@[simp] theorem sbind_ct (r : Rho) (k : Rho → SR) : (SR.ct r).bind k = .ct r := Eq.trans rfl rfl
@[simp] theorem sbind_exc (c : Str) (x : D) (r : Rho) (k : Rho → SR) : (SR.exc c x r).bind k = .exc c x r := Eq.trans rfl rfl
@[simp] theorem toS_ok (a : α) (r : Rho) (k : α → Rho → SR) : (R.ok a r).toS k = k a r := Eq.trans rfl rfl
@[simp] theorem toS_exc (c : Str) (x : D) (r : Rho) (k : α → Rho → SR) : (R.exc c x r).toS k = .exc c x r := Eq.trans rfl rfl
@[simp] theorem ofO_some (a : α) (r : Rho) : R.ofO (some a) r = .ok a r := Eq.trans rfl rfl
@[simp] theorem noX_ok (a : α) (r : Rho) : (R.ok a r).noX = .ok a r := Eq.trans rfl rfl
end
variable (r : Rho) (f g k h : Rho → R D) (o p q : Rho → R Opd) (as : Rho → R (List Opd)) (t u : Rho → R Bool) (s s' : Rho → SR) (i : Nat) (d : D)
@[simp] theorem v_var : eVar i r = .ofO ((r[i]?).join) r := Eq.trans rfl rfl
@[simp] theorem v_cst : eCst d r = .ok d r := Eq.trans rfl rfl
@[simp] theorem v_val : oVal f r = (f r).bind fun d r' => .ok (.val d) r' := Eq.trans rfl rfl
@[simp] theorem v_slot : oSlot i r = match (r[i]?).join with
  | some _ => .ok (.slot i) r
  | none => .bad := Eq.trans rfl rfl
@[simp] theorem v_mv : eMv i r = match (r[i]?).join with
  | some d => .ok d (r.set i none)
  | none => .bad := Eq.trans rfl rfl
@[simp] theorem v_getv : (Opd.val d).get r = some d := Eq.trans rfl rfl
@[simp] theorem v_gets : (Opd.slot i).get r = dropX ((r[i]?).join) := Eq.trans rfl rfl
@[simp] theorem dropX_lst (ds : List D) : dropX (some (.list ds)) = some (.list ds) := Eq.trans rfl rfl
@[simp] theorem dropX_tup (ds : List D) : dropX (some (.tuple ds)) = some (.tuple ds) := Eq.trans rfl rfl
@[simp] theorem dropX_str (z : Str) : dropX (some (.str z)) = some (.str z) := Eq.trans rfl rfl
@[simp] theorem dropX_int (z : Int) : dropX (some (.int z)) = some (.int z) := Eq.trans rfl rfl
@[simp] theorem v_pNone : pNone r = .ok none r := Eq.trans rfl rfl
@[simp] theorem v_pSome : pSome f r = (f r).bind fun d r1 => match d with
  | .int i => .ok (some i) r1
  | _ => .bad := Eq.trans rfl rfl
@[simp] theorem v_sl (g k : Rho → R (Option Int)) : eSl o g k r = (o r).bind fun o r1 => (g r1).bind fun lo r2 => (k r2).bind fun hi r3 => .ofO ((o.get r3).bind fun d => dSl d lo hi) r3 := Eq.trans rfl rfl
@[simp] theorem v_inst (T : String) : eInst T o r = (o r).bind fun o r1 => .ofO (((o.get r1).bind (instT T)).map .bool) r1 := Eq.trans rfl rfl
@[simp] theorem v_inRng : eInRng o as r = (o r).bind fun o r1 => (as r1).bind fun os r2 => match o.get r2, gets r2 os with
  | some (.int i), some [.int j] => .ok (.bool (decide (0 ≤ i ∧ i < j))) r2
  | _, _ => .bad := Eq.trans rfl rfl
@[simp] theorem v_fnE (o : Option D) : eFnE i o r = match (r[i]?).join with
  | some (.dict _) => .ofO o r
  | _ => .bad := Eq.trans rfl rfl
@[simp] theorem v_raise (c : Str) : sRaise c r = .exc c .none r := Eq.trans rfl rfl
@[simp] theorem v_isE (c : Str) (tab : List (Str × Bool)) : eIsE i c tab r = match (r[i]?).join with
  | some (.dict _) => .ofO ((tab.lookup c).map .bool) r
  | _ => .bad := Eq.trans rfl rfl
@[simp] theorem v_tryAs (tab : List (Str × Bool)) (h : Str → Rho → SR) : sTryAs i tab s h r = match s r with
  | .exc c .none r1 => match tab.lookup c with
    | some true => unAs i (h c (r1.set i (some (excV c))))
    | some false => .exc c .none r1
    | none => .bad
  | .exc _ _ _ => .bad
  | s => s := Eq.trans rfl rfl
@[simp] theorem v_try (tab : List (Str × Bool)) (h : Rho → SR) : sTry tab s h r = match s r with
  | .exc c .none r1 => match tab.lookup c with
    | some true => noExc (h r1)
    | some false => .exc c .none r1
    | none => .bad
  | .exc _ _ _ => .bad
  | s => s := Eq.trans rfl rfl
@[simp] theorem unAs_rt (d : D) : unAs i (.rt d r) = .rt d (r.set i none) := Eq.trans rfl rfl
@[simp] theorem unAs_nx : unAs i (.nx r) = .nx (r.set i none) := Eq.trans rfl rfl
@[simp] theorem noExc_rt (d : D) : noExc (.rt d r) = .rt d r := Eq.trans rfl rfl
@[simp] theorem noExc_nx : noExc (.nx r) = .nx r := Eq.trans rfl rfl
@[simp] theorem v_kNil : kNil [] r = some r := Eq.trans rfl rfl
@[simp] theorem v_kCons (k : D → Rho → Option Rho) (l : List D → Rho → Option Rho) (ds : List D) : kCons k l (d :: ds) r = (k d r).bind fun r1 => l ds r1 := Eq.trans rfl rfl
@[simp] theorem v_kSeqT (n : Nat) (l : List D → Rho → Option Rho) (ds : List D) : kSeq n l (.tuple ds) r = if ds.length = n then l ds r else none := Eq.trans rfl rfl
@[simp] theorem v_kSeqL (n : Nat) (l : List D → Rho → Option Rho) (ds : List D) : kSeq n l (.list ds) r = if ds.length = n then l ds r else none := Eq.trans rfl rfl
@[simp] theorem v_kTup (n : Nat) (l : List D → Rho → Option Rho) (ds : List D) : kTup n l (.tuple ds) r = if ds.length = n then l ds r else none := Eq.trans rfl rfl
@[simp] theorem dAdd2_int (i j : Int) : dAdd2 (.int i) (.int j) = some (.int (i + j)) := Eq.trans rfl rfl
@[simp] theorem dAdd4_int (i j : Int) : dAdd4 (.int i) (.int j) = some (.int (i + j)) := Eq.trans rfl rfl
theorem dAdd4_str (a b : Str) : dAdd4 (.str a) (.str b) = dAdd (.str a) (.str b) := Eq.trans rfl rfl
theorem dAdd4_tup (a b : List D) : dAdd4 (.tuple a) (.tuple b) = dAdd2 (.tuple a) (.tuple b) := Eq.trans rfl rfl
theorem dAdd2_str (a b : Str) : dAdd2 (.str a) (.str b) = dAdd (.str a) (.str b) := Eq.trans rfl rfl
theorem dMul3_int (i j : Int) : dMul3 (.int i) (.int j) = dMul (.int i) (.int j) := Eq.trans rfl rfl
theorem dMul5_int (i j : Int) : dMul5 (.int i) (.int j) = dMul (.int i) (.int j) := Eq.trans rfl rfl
theorem dMul5_str (a : Str) (j : Int) : dMul5 (.str a) (.int j) = dMul (.str a) (.int j) := Eq.trans rfl rfl
theorem dMul3_str (a : Str) (j : Int) : dMul3 (.str a) (.int j) = dMul (.str a) (.int j) := Eq.trans rfl rfl
@[simp] theorem v_bin (sem : D → D → Option D) : eBin sem o p r = (o r).bind fun a r1 => (p r1).bind fun b r2 => .ofO ((a.get r2).bind fun x => (b.get r2).bind fun y => sem x y) r2 := Eq.trans rfl rfl
@[simp] theorem v_chain (sem sem' : D → D → Option D) : eChain sem sem' o p q r = (o r).bind fun a r1 => (p r1).bind fun b r2 =>
  match ((a.get r2).bind fun x => (b.get r2).bind fun y => sem x y) with
  | some (.bool true) => (q r2).bind fun c r3 => .ofO ((b.get r3).bind fun x => (c.get r3).bind fun y => sem' x y) r3
  | some (.bool false) => .ok (.bool false) r2
  | _ => .bad := Eq.trans rfl rfl
@[simp] theorem v_tru : tTru o r = (o r).bind fun o r1 => .ofO ((o.get r1).bind tru) r1 := Eq.trans rfl rfl
@[simp] theorem v_tNot : tNot t r = (t r).bind fun b r1 => .ok (!b) r1 := Eq.trans rfl rfl
@[simp] theorem v_tAnd : tAnd t u r = (t r).bind fun b r1 => if b = true then u r1 else .ok false r1 := Eq.trans rfl rfl
@[simp] theorem v_tOr : tOr t u r = (t r).bind fun b r1 => if b = true then .ok true r1 else u r1 := Eq.trans rfl rfl
@[simp] theorem v_and : eAnd f g r = (f r).bind fun d r1 => match tru d with
  | some true => g r1
  | some false => .ok d r1
  | none => .bad := Eq.trans rfl rfl
@[simp] theorem v_or : eOr f g r = (f r).bind fun d r1 => match tru d with
  | some true => .ok d r1
  | some false => g r1
  | none => .bad := Eq.trans rfl rfl
@[simp] theorem v_not : eNot f r = (f r).bind fun d r1 => match tru d with
  | some b => .ok (.bool !b) r1
  | none => .bad := Eq.trans rfl rfl
@[simp] theorem v_if : eIf t f g r = (t r).bind fun b r1 => if b = true then f r1 else g r1 := Eq.trans rfl rfl
@[simp] theorem v_nil : aNil r = .ok [] r := Eq.trans rfl rfl
@[simp] theorem v_cons : aCons o as r = (o r).bind fun o r1 => (as r1).bind fun os r2 => .ok (o :: os) r2 := Eq.trans rfl rfl
@[simp] theorem g_nil : gets r [] = some [] := Eq.trans rfl rfl
@[simp] theorem g_cons (o : Opd) (os : List Opd) : gets r (o :: os) = (o.get r).bind fun d => (gets r os).bind fun ds => some (d :: ds) := Eq.trans rfl rfl
@[simp] theorem vals_nil : vals [] = some [] := Eq.trans rfl rfl
@[simp] theorem vals_val (os : List Opd) : vals (.val d :: os) = (vals os).bind fun ds => some (d :: ds) := Eq.trans rfl rfl
@[simp] theorem v_tup : eTup as r = (as r).bind fun os r1 => .ofO ((vals os).bind fun ds => if ds.length ≤ sizeLine then some (.tuple ds) else none) r1 := Eq.trans rfl rfl
@[simp] theorem v_lst : eLst as r = (as r).bind fun os r1 => .ofO ((vals os).bind fun ds => if ds.length ≤ sizeLine then some (.list ds) else none) r1 := Eq.trans rfl rfl
@[simp] theorem v_call (sem : List D → Option D) : eCall sem as r = (as r).bind fun os r1 => .ofO ((gets r1 os).bind sem) r1 := Eq.trans rfl rfl
@[simp] theorem v_callL (sem : List D → Option (List D)) : eCallL sem as r = (as r).bind fun os r1 => .ofO ((gets r1 os).bind fun ds => (sem ds).bind fun es => some (.list es)) r1 := Eq.trans rfl rfl
@[simp] theorem v_meth (T : String) (sem : D → List D → Option D) : eMeth T sem o as r = (o r).bind fun o r1 => match (o.get r1).map (tyD T) with
  | some true => (as r1).bind fun os r2 => .ofO ((o.get r2).bind fun c => (gets r2 os).bind fun ds => sem c ds) r2
  | _ => .bad := Eq.trans rfl rfl
@[simp] theorem v_methL (T : String) (sem : D → List D → Option (List D)) : eMethL T sem o as r = (o r).bind fun o r1 => match (o.get r1).map (tyD T) with
  | some true => (as r1).bind fun os r2 => .ofO ((o.get r2).bind fun c => (gets r2 os).bind fun ds => (sem c ds).bind fun es => some (.list es)) r2
  | _ => .bad := Eq.trans rfl rfl
@[simp] theorem v_mut (sem : List D → List D → Option (List D × D)) : eMut i sem as r = match (r[i]?).join with
  | some (.list _) => (as r).bind fun os r2 => match (r2[i]?).join with
    | some (.list cs) => match (vals os).bind fun ds => sem cs ds with
      | some (es, d) => .ok d (r2.set i (some (.list es)))
      | none => .bad
    | _ => .bad
  | _ => .bad := Eq.trans rfl rfl
@[simp] theorem v_snil : sNil r = .nx r := Eq.trans rfl rfl
@[simp] theorem v_seq : sSeq s s' r = (s r).bind s' := Eq.trans rfl rfl
@[simp] theorem v_pass : sPass r = .nx r := Eq.trans rfl rfl
@[simp] theorem v_break : sBreak r = .bk r := Eq.trans rfl rfl
@[simp] theorem v_cont : sCont r = .ct r := Eq.trans rfl rfl
@[simp] theorem v_expr : sExpr f r = (f r).toS fun _ r1 => .nx r1 := Eq.trans rfl rfl
@[simp] theorem v_ret : sRet f r = (f r).toS fun d r1 => .rt d r1 := Eq.trans rfl rfl
@[simp] theorem v_retN : sRetN r = .rt .none r := Eq.trans rfl rfl
@[simp] theorem v_sif : sIf t s s' r = (t r).toS fun b r1 => if b = true then s r1 else s' r1 := Eq.trans rfl rfl
@[simp] theorem v_set : sSet i f r = (f r).toS fun d r1 => .nx (r1.set i (some d)) := Eq.trans rfl rfl
@[simp] theorem v_aug (sem : D → D → Option D) : sAug i sem o r = match (r[i]?).join with
  | some x => (o r).toS fun o r1 => match (o.get r1).bind fun y => sem x y with
    | some d => .nx (r1.set i (some d))
    | none => .bad
  | none => .bad := Eq.trans rfl rfl
@[simp] theorem v_kName : kName i d r = some (r.set i (some d)) := Eq.trans rfl rfl
@[simp] theorem v_asg (k : D → Rho → Option Rho) : sAsg k f r = (f r).toS fun d r1 => match k d r1 with
  | some r2 => .nx r2
  | none => .bad := Eq.trans rfl rfl
@[simp] theorem v_iAny : iAny f r = (f r).bind fun d r1 => match d with
  | .list ds => .ok ds r1
  | .tuple ds => .ok ds r1
  | .str z => .ok (z.cps.toList.map sgn) r1
  | _ => .bad := Eq.trans rfl rfl
@[simp] theorem v_rng1 : iRng1 as r = (as r).bind fun os r1 => match gets r1 os with
  | some [.int j] => if inR j = true then .ok (rngD 0 j.toNat) r1 else .bad
  | _ => .bad := Eq.trans rfl rfl
@[simp] theorem v_rng2 : iRng2 as r = (as r).bind fun os r1 => match gets r1 os with
  | some [.int i, .int j] => if (inR i && inR j) = true then .ok (rngD i (j - i).toNat) r1 else .bad
  | _ => .bad := Eq.trans rfl rfl
@[simp] theorem v_for (f : Rho → R (List D)) (k : D → Rho → Option Rho) : sFor f k s r = (f r).toS fun ds r1 => forE k s ds r1 := Eq.trans rfl rfl
@[simp] theorem v_tBool : tBool f r = (f r).bind fun d r1 => match d with
  | .bool b => .ok b r1
  | _ => .bad := Eq.trans rfl rfl
@[simp] theorem v_neg : eNeg f r = (f r).bind fun d r1 => match d with
  | .int i => .ok (.int (-i)) r1
  | _ => .bad := Eq.trans rfl rfl
@[simp] theorem v_comp (vs : List Nat) (i : Rho → R (List D)) (k : D → Rho → Option Rho) : eComp vs i k t f r = (i r).bind fun ds r1 => (compL vs k t f ds (wipeR r1 vs) []).bind fun ys r2 => .ok (.list ys) (restR r1 r2 vs) := Eq.trans rfl rfl
@[simp] theorem v_yes : tYesR r = .ok true r := Eq.trans rfl rfl
@[simp] theorem v_wipe0 : wipeR r [] = r := Eq.trans rfl rfl
@[simp] theorem v_wipe (v : Nat) (vs : List Nat) : wipeR r (v :: vs) = (wipeR r vs).set v none := Eq.trans rfl rfl
@[simp] theorem v_rest0 (r0 : Rho) : restR r0 r [] = r := Eq.trans rfl rfl
@[simp] theorem v_rest (r0 : Rho) (v : Nat) (vs : List Nat) : restR r0 r (v :: vs) = (restR r0 r vs).set v ((r0[v]?).join) := Eq.trans rfl rfl
@[simp] theorem v_fn (F : FS) (as : List Arg) : eFn F as r = (argsR as r).bind fun os r1 => match gets r1 os with
  | some ds => match F ds with
    | .ok d ro => .ok d (putA as ro r1)
    | .exc c x ro => .exc c x (putA as ro r1)
    | .bad => .bad
  | none => .bad := Eq.trans rfl rfl
@[simp] theorem v_args0 : argsR [] = aNil := Eq.trans rfl rfl
@[simp] theorem v_argsE (as : List Arg) : argsR (.e f :: as) = aCons (oVal f) (argsR as) := Eq.trans rfl rfl
@[simp] theorem v_argsS (as : List Arg) : argsR (.s i :: as) = aCons (oSlot i) (argsR as) := Eq.trans rfl rfl
@[simp] theorem v_put0 (ro : Rho) : putA [] ro r = r := Eq.trans rfl rfl
@[simp] theorem v_putE (as : List Arg) (ro : Rho) : putA (.e f :: as) ro r = putA as ro.tail r := Eq.trans rfl rfl
@[simp] theorem v_putS (as : List Arg) (ro : Rho) : putA (.s i :: as) ro r = putA as ro.tail (r.set i (ro.head?.join)) := Eq.trans rfl rfl
@[simp] theorem v_ite_some {α : Type} {c : Prop} [Decidable c] (a : α) : R.ofO (if c then some a else none) r = if c then .ok a r else .bad := by
  split <;> rfl
/-! loops -/
@[simp] theorem f_nil (k : D → Rho → Option Rho) : forE k s [] r = .nx r := Eq.trans rfl rfl
theorem f_cons (k : D → Rho → Option Rho) (ds : List D) : forE k s (d :: ds) r = match k d r with
    | none => .bad
    | some r1 => match s r1 with
      | .nx r2 => forE k s ds r2
      | .ct r2 => forE k s ds r2
      | .bk r2 => .nx r2
      | .rt d r2 => .rt d r2
      | .exc c x r2 => .exc c x r2
      | .bad => .bad := rfl
@[simp] theorem c_nil (vs : List Nat) (k : D → Rho → Option Rho) (acc : List D) : compL vs k t f [] r acc = .ok acc r := Eq.trans rfl rfl
theorem c_cons (vs : List Nat) (k : D → Rho → Option Rho) (ds acc : List D) : compL vs k t f (d :: ds) r acc = match k d r with
    | none => .bad
    | some r1 => (t r1).noX.bind fun c r2 => if c = true then (f r2).noX.bind fun y r3 => if acc.length < sizeLine then compL vs k t f ds (wipeR r3 vs) (acc ++ [y]) else .bad else compL vs k t f ds (wipeR r2 vs) acc := Eq.trans rfl rfl
/-! body -/
theorem body_ok {pm : Ms} {n m : Nat} {s : Rho → SR} {ds : List D} {d : D} {r : Rho} (h : s (ds.map some ++ List.replicate m none) = .rt d r) : bodyF pm n m s ds = .ok d (outsR pm n r) := by
  show (match s (ds.map some ++ List.replicate m none) with
    | .rt d r => R.ok d (outsR pm n r)
    | .nx r => .ok .none (outsR pm n r)
    | .exc c x r => .exc c x (outsR pm n r)
    | _ => .bad) = _
  rw [h]
theorem body_exc {pm : Ms} {n m : Nat} {s : Rho → SR} {ds : List D} {c : Str} {x : D} {r : Rho} (h : s (ds.map some ++ List.replicate m none) = .exc c x r) : bodyF pm n m s ds = .exc c x (outsR pm n r) := by
  show (match s (ds.map some ++ List.replicate m none) with
    | .rt d r => R.ok d (outsR pm n r)
    | .nx r => .ok .none (outsR pm n r)
    | .exc c x r => .exc c x (outsR pm n r)
    | _ => .bad) = _
  rw [h]
theorem body_nx {pm : Ms} {n m : Nat} {s : Rho → SR} {ds : List D} {r : Rho} (h : s (ds.map some ++ List.replicate m none) = .nx r) : bodyF pm n m s ds = .ok .none (outsR pm n r) := by
  show (match s (ds.map some ++ List.replicate m none) with
    | .rt d r => R.ok d (outsR pm n r)
    | .nx r => .ok .none (outsR pm n r)
    | .exc c x r => .exc c x (outsR pm n r)
    | _ => .bad) = _
  rw [h]
/-! a loop, by an invariant: J says what holds before each turn -/
theorem forE_inv {k : D → Rho → Option Rho} {s : Rho → SR} (J : Rho → Prop) (P : D → Prop) (step : ∀ d r, P d → J r → ∃ r1, k d r = some r1 ∧ ∃ r2, (s r1 = .nx r2 ∨ s r1 = .ct r2) ∧ J r2) : ∀ ds r, (∀ d ∈ ds, P d) → J r → ∃ r', forE k s ds r = .nx r' ∧ J r'
  | [], r, _, j => ⟨r, rfl, j⟩
  | d :: ds, r, hp, j => by
    obtain ⟨r1, e1, r2, e2, j2⟩ := step d r (hp d (List.mem_cons_self ..)) j
    obtain ⟨r', e', j'⟩ := forE_inv J P step ds r2 (fun x hx => hp x (List.mem_cons_of_mem _ hx)) j2
    refine ⟨r', ?_, j'⟩
    rw [f_cons, e1]
    rcases e2 with e2 | e2 <;> (simp only [e2]; exact e')
/-- with a number of turns left -/
theorem forE_invN {k : D → Rho → Option Rho} {s : Rho → SR} (J : Nat → Rho → Prop) (P : D → Prop) (step : ∀ n d r, P d → J (n + 1) r → ∃ r1, k d r = some r1 ∧ ∃ r2, (s r1 = .nx r2 ∨ s r1 = .ct r2) ∧ J n r2) : ∀ ds r n, (∀ d ∈ ds, P d) → J (ds.length + n) r → ∃ r', forE k s ds r = .nx r' ∧ J n r'
  | [], r, n, _, j => ⟨r, rfl, by simpa using j⟩
  | d :: ds, r, n, hp, j => by
    obtain ⟨r1, e1, r2, e2, j2⟩ := step (ds.length + n) d r (hp d (List.mem_cons_self ..)) (by rw [List.length_cons, Nat.add_right_comm] at j; exact j)
    obtain ⟨r', e', j'⟩ := forE_invN J P step ds r2 n (fun x hx => hp x (List.mem_cons_of_mem _ hx)) j2
    refine ⟨r', ?_, j'⟩
    rw [f_cons, e1]
    rcases e2 with e2 | e2 <;> (simp only [e2]; exact e')
theorem compL_inv {vs : List Nat} {k : D → Rho → Option Rho} {t : Rho → R Bool} {f : Rho → R D} (J : Rho → Prop) (P Y : D → Prop) (step : ∀ d r, P d → J r → ∃ r1, k d r = some r1 ∧ ∃ r2, t r1 = .ok true r2 ∧ ∃ y r3, f r2 = .ok y r3 ∧ Y y ∧ J (wipeR r3 vs)) :
    ∀ ds r acc, (∀ d ∈ ds, P d) → J r → (∀ y ∈ acc, Y y) → acc.length + ds.length ≤ sizeLine → ∃ ys r', compL vs k t f ds r acc = .ok ys r' ∧ J r' ∧ (∀ y ∈ ys, Y y) ∧ ys.length = acc.length + ds.length
  | [], r, acc, _, j, ha, _ => ⟨acc, r, rfl, j, ha, rfl⟩
  | d :: ds, r, acc, hp, j, ha, hl => by
    obtain ⟨r1, e1, r2, e2, y, r3, e3, hy, j3⟩ := step d r (hp d (List.mem_cons_self ..)) j
    rw [List.length_cons] at hl
    obtain ⟨ys, r', e', j', hys, hlen⟩ := compL_inv J P Y step ds (wipeR r3 vs) (acc ++ [y]) (fun x hx => hp x (List.mem_cons_of_mem _ hx)) j3 (by
      intro z hz
      rcases List.mem_append.mp hz with hz | hz
      · exact ha z hz
      · rw [List.mem_singleton.mp hz]; exact hy) (by rw [List.length_append]; simp only [List.length_cons, List.length_nil]; omega)
    refine ⟨ys, r', ?_, j', hys, by rw [hlen, List.length_append]; simp only [List.length_cons, List.length_nil]; omega⟩
    rw [c_cons, e1]
    simp only [e2, noX_ok, bind_ok, if_true, e3]
    rw [if_pos (by omega)]
    exact e'
/-- a comprehension whose parts leave the names alone, is a map -/
theorem compL_map {vs : List Nat} {k : D → Rho → Option Rho} {t : Rho → R Bool} {f : Rho → R D} (m : D → D) (r : Rho) : ∀ (ds acc : List D), (∀ d ∈ ds, ∃ r1, k d r = some r1 ∧ t r1 = .ok true r1 ∧ f r1 = .ok (m d) r1 ∧ wipeR r1 vs = r) → acc.length + ds.length ≤ sizeLine → compL vs k t f ds r acc = .ok (acc ++ ds.map m) r
  | [], acc, _, _ => by simp
  | d :: ds, acc, hp, hl => by
    obtain ⟨r1, e1, e2, e3, e4⟩ := hp d (List.mem_cons_self ..)
    rw [List.length_cons] at hl
    rw [c_cons, e1]
    simp only [e2, noX_ok, bind_ok, if_true, e3]
    rw [if_pos (by omega), e4, compL_map m r ds (acc ++ [m d]) (fun x hx => hp x (List.mem_cons_of_mem _ hx)) (by rw [List.length_append]; simp only [List.length_cons, List.length_nil]; omega)]
    simp
theorem bools_map (p : D → Bool) : ∀ ds : List D, bools (ds.map fun d => .bool (p d)) = some (ds.map p)
  | [] => rfl
  | d :: ds => by
    show (bools (ds.map fun d => .bool (p d))).map (p d :: ·) = _
    rw [bools_map p ds] <;> rfl
theorem rngD_mem {lo : Int} {n : Nat} {d : D} (h : d ∈ rngD lo n) : ∃ i : Nat, i < n ∧ d = .int (lo + i) := by
  obtain ⟨i, hi, rfl⟩ := List.mem_map.mp h
  exact ⟨i, List.mem_range.mp hi, rfl⟩
theorem rngD_len (lo : Int) (n : Nat) : (rngD lo n).length = n := by simp [rngD]
theorem strIn_sgn (c : Nat) (z : Str) : strIn ⟨#[c]⟩ z = decide (c ∈ z.cps.toList) := (PySem.StrLaws.found_one z c).symm ▸ rfl
end DL
end

section
namespace DL
open PySem PySem.Spec PyProof.Rows L2 TL
/-! shared plain lemmas -/
theorem atI_int {α : Type} {xs : List α} {i : Int} (h0 : 0 ≤ i) (h : i < xs.length) : atI xs i = xs[i.toNat]? := by
  have e : i = ((i.toNat : Nat) : Int) := by omega
  have hl : i.toNat < xs.length := by omega
  have h1 : xs[i.toNat]? = some xs[i.toNat] := List.getElem?_eq_getElem hl
  rw [h1]
  conv => lhs; rw [e]
  exact atI_nat h1
/-- with a way out -/
theorem forE_invB {k : D → Rho → Option Rho} {s : Rho → SR} (J : Nat → Rho → Prop) (B : Rho → Prop) (P : D → Prop) (fin : ∀ r, J 0 r → B r)
    (step : ∀ n d r, P d → J (n + 1) r → ∃ r1, k d r = some r1 ∧ ∃ r2, ((s r1 = .nx r2 ∨ s r1 = .ct r2) ∧ J n r2) ∨ (s r1 = .bk r2 ∧ B r2)) : ∀ ds r, (∀ d ∈ ds, P d) → J ds.length r → ∃ r', forE k s ds r = .nx r' ∧ B r'
  | [], r, _, j => ⟨r, rfl, fin r j⟩
  | d :: ds, r, hp, j => by
    obtain ⟨r1, e1, r2, h⟩ := step ds.length d r (hp d (List.mem_cons_self ..)) j
    rcases h with ⟨e2, j2⟩ | ⟨e2, b⟩
    · obtain ⟨r', e', j'⟩ := forE_invB J B P fin step ds r2 (fun x hx => hp x (List.mem_cons_of_mem _ hx)) j2
      refine ⟨r', ?_, j'⟩
      rw [f_cons, e1]
      rcases e2 with e2 | e2 <;> (simp only [e2]; exact e')
    · refine ⟨r2, ?_, b⟩
      rw [f_cons, e1]
      simp only [e2]
def Good (ns : List Int) : Prop := ∀ x ∈ ns, 0 ≤ x ∧ x < 1000
abbrev ilD (ns : List Int) : D := .list (ns.map .int)
theorem good_app {a b : List Int} (ha : Good a) (hb : Good b) : Good (a ++ b) := fun x h => (List.mem_append.mp h).elim (ha x) (hb x)
theorem good_one {i : Int} (h0 : 0 ≤ i) (h1 : i < 1000) : Good [i] := fun x h => by rw [List.mem_singleton.mp h]; exact ⟨h0, h1⟩
theorem good_rev {a : List Int} (h : Good a) : Good a.reverse := fun x hx => h x (List.mem_reverse.mp hx)
theorem size_eq : sizeLine = 16777216 := by decide
theorem i64_a : i64 48271 = true := by decide
theorem i64_b : i64 69621 = true := by decide
theorem inR_60 : DL.inR 60 = true := by decide
theorem m_bd (j : Int) : 0 ≤ j % 1000 ∧ j % 1000 < 1000 := ⟨Int.emod_nonneg _ (by decide), Int.emod_lt_of_pos _ (by decide)⟩
theorem dGe_no {i j : Int} (h : ¬ j ≤ i) : dGe (.int i) (.int j) = some (.bool false) := by
  show some (PyData.bool (decide (j ≤ i))) = _
  rw [decide_eq_false h]
theorem dGe_yes {i j : Int} (h : j ≤ i) : dGe (.int i) (.int j) = some (.bool true) := by
  show some (PyData.bool (decide (j ≤ i))) = _
  rw [decide_eq_true h]
theorem dMod_ex (i j : Int) (h : 0 < j) : ∃ m, dMod (.int i) (.int j) = some (.int m) ∧ 0 ≤ m ∧ m < j := ⟨i % j, if_pos h, Int.emod_nonneg _ (by omega), Int.emod_lt_of_pos _ h⟩
theorem compL_mapG {ι : Type} {vs : List Nat} {k : D → Rho → Option Rho} {t : Rho → R Bool} {f : Rho → R D} (j m : ι → D) (r : Rho) : ∀ (ds : List ι) (acc : List D), (∀ d ∈ ds, ∃ r1, k (j d) r = some r1 ∧ t r1 = .ok true r1 ∧ f r1 = .ok (m d) r1 ∧ wipeR r1 vs = r) → acc.length + ds.length ≤ sizeLine → compL vs k t f (ds.map j) r acc = .ok (acc ++ ds.map m) r
  | [], acc, _, _ => by simp
  | d :: ds, acc, hp, hl => by
    obtain ⟨r1, e1, e2, e3, e4⟩ := hp d (List.mem_cons_self ..)
    rw [List.length_cons] at hl
    rw [List.map_cons, c_cons, e1]
    simp only [e2, noX_ok, bind_ok, if_true, e3]
    rw [if_pos (by omega), e4, compL_mapG j m r ds (acc ++ [m d]) (fun x hx => hp x (List.mem_cons_of_mem _ hx)) (by rw [List.length_append]; simp only [List.length_cons, List.length_nil]; omega)]
    simp
theorem bools_mapG {ι : Type} (p : ι → Bool) : ∀ ds : List ι, bools (ds.map fun d => .bool (p d)) = some (ds.map p)
  | [] => rfl
  | d :: ds => by
    show (bools (ds.map fun d => .bool (p d))).map (p d :: ·) = _
    rw [bools_mapG p ds] <;> rfl
theorem cAll_mapG {ι : Type} (p : ι → Bool) (ds : List ι) : cAll [.list (ds.map fun d => .bool (p d))] = some (.bool (ds.all p)) := by
  show (bools _).map _ = _
  rw [bools_mapG]
  simp [List.all_map]
theorem forE_nx {k : D → Rho → Option Rho} {s : Rho → SR} {d : D} {ds : List D} {r r1 r2 : Rho} (h : k d r = some r1) (e : s r1 = .nx r2) : forE k s (d :: ds) r = forE k s ds r2 := by
  rw [f_cons, h]; simp only [e]
theorem forE_rt {k : D → Rho → Option Rho} {s : Rho → SR} {d y : D} {ds : List D} {r r1 r2 : Rho} (h : k d r = some r1) (e : s r1 = .rt y r2) : forE k s (d :: ds) r = .rt y r2 := by
  rw [f_cons, h]; simp only [e]
abbrev lst (p : List Nat) : D := .str ⟨p.toArray⟩
theorem dEq_s (p : List Nat) (z : Str) : dEq (lst p) (.str z) = some (.bool (decide (p = tl z))) := by
  show some (PyData.bool (decide ((⟨p.toArray⟩ : Str) = z))) = _
  have e : ((⟨p.toArray⟩ : Str) = z) ↔ p = tl z := ⟨fun h => by rw [← h], fun h => ext_tl h⟩
  simp only [e]
theorem dAdd_s {a b : Str} (h : a.length + b.length ≤ sizeLine) : dAdd (.str a) (.str b) = some (.str (a ++ b)) := if_pos h
theorem app_l (p q : List Nat) : (⟨p.toArray⟩ : Str) ++ (⟨q.toArray⟩ : Str) = ⟨(p ++ q).toArray⟩ := ext_tl (by rw [tl_append])
theorem dLe_int (i j : Int) : dLe (.int i) (.int j) = some (.bool (decide (i ≤ j))) := rfl
theorem dLt_int (i j : Int) : dLt (.int i) (.int j) = some (.bool (decide (i < j))) := rfl
theorem cOrd_sgn (c : Nat) : cOrd [sgn c] = some (.int c) := rfl
theorem cRepr_ok {d : D} (h : (d.showable && !d.hasDict && decide (d.depth ≤ 60) && decide (d.shown.length ≤ sizeLine)) = true) : cRepr [d] = some (.str d.shown) := if_pos h
theorem dNe_same (z : Str) : dNe (.str z) (.str z) = some (.bool false) := by
  show some (PyData.bool (!decide (z = z))) = _
  rw [decide_eq_true rfl] <;> rfl
theorem inR_s {j : Int} (h0 : 0 ≤ j) (h1 : j ≤ 1000000) : DL.inR j = true := by
  simp only [DL.inR, Bool.and_eq_true, decide_eq_true_eq]
  omega
theorem joinL_flat : ∀ ls : List (List Nat), joinL [] ls = ls.flatten
  | [] => rfl
  | [p] => by simp [joinL]
  | p :: q :: r => by
    show p ++ ([] ++ joinL [] (q :: r)) = _
    rw [joinL_flat (q :: r)]
    simp
theorem flat_one : ∀ cs : List Nat, (cs.map fun c => [c]).flatten = cs
  | [] => rfl
  | c :: cs => by simp [flat_one cs]
theorem texts_sgn : ∀ cs : List Nat, texts (cs.map sgn) = some (cs.map fun c => (⟨#[c]⟩ : Str))
  | [] => rfl
  | c :: cs => by
    show (texts (cs.map sgn)).map (_ :: ·) = _
    rw [texts_sgn cs] <;> rfl
theorem join_sgn (cs : List Nat) : Txt.join "" (cs.map fun c => (⟨#[c]⟩ : Str)) = ⟨cs.toArray⟩ := by
  refine ext_tl ?_
  rw [join_eq, tl_join]
  show joinL [] _ = cs
  rw [joinL_flat, List.map_map]
  exact flat_one cs
theorem sum_one : ∀ cs : List Nat, ((cs.map fun c => (⟨#[c]⟩ : Str)).map (·.length)).sum = cs.length
  | [] => rfl
  | c :: cs => by
    rw [List.map_cons, List.map_cons, List.sum_cons, sum_one cs]
    show 1 + _ = _
    simp [Nat.add_comm]
theorem mJoin_sgn (cs : List Nat) (h : cs.length ≤ 1000) : mJoin (.str "") [.list (cs.map sgn)] = some (.str ⟨cs.toArray⟩) := by
  show ((texts (cs.map sgn)).bind fun ys => if (ys.map (·.length)).sum + ys.length * ("" : Str).length ≤ 16777216 then some (PyData.str (Txt.join "" ys)) else none) = _
  rw [texts_sgn]
  show (if _ then _ else _) = _
  rw [if_pos, join_sgn]
  rw [sum_one]
  have e : ("" : Str).length = 0 := rfl
  rw [e]
  omega
theorem all_sgn : ∀ ys : List D, (∀ y ∈ ys, ∃ c, y = sgn c ∧ c < 128) → ∃ cs : List Nat, ys = cs.map sgn ∧ ∀ c ∈ cs, c < 128
  | [], _ => ⟨[], rfl, fun _ h => by simp at h⟩
  | y :: ys, h => by
    obtain ⟨c, rfl, hc⟩ := h y (List.mem_cons_self ..)
    obtain ⟨cs, rfl, hs⟩ := all_sgn ys fun z hz => h z (List.mem_cons_of_mem _ hz)
    exact ⟨c :: cs, rfl, fun x hx => (List.mem_cons.mp hx).elim (fun e => e ▸ hc) (hs x)⟩
theorem ix_str {z : Str} {i : Int} (h0 : 0 ≤ i) (h : i < z.length) (hz : z.length ≤ 1000) : ∃ c, c ∈ tl z ∧ dIx (.str z) (.int i) = some (sgn c) := by
  have hl : i.toNat < (tl z).length := by rw [← len_tl]; omega
  refine ⟨(tl z)[i.toNat], List.getElem_mem hl, ?_⟩
  show (if z.length ≤ sizeLine then (atI z.cps.toList i).map fun c => PyData.str ⟨#[c]⟩ else none) = _
  rw [if_pos (by rw [size_eq]; omega), atI_int h0 (by rw [← len_tl]; exact h), List.getElem?_eq_getElem hl] <;> rfl
theorem dAdd_int (i j : Int) : dAdd (.int i) (.int j) = some (.int (i + j)) := rfl
theorem dLe_str (a b : List Nat) : dLe (lst a) (lst b) = some (.bool (!decide (b < a))) := rfl
theorem lt_one (a b : Nat) : decide ([a] < [b]) = decide (a < b) := by
  simp [List.cons_lt_cons_iff]
theorem cLen_l (p : List Nat) (h : p.length ≤ 1000000) : cLen [lst p] = some (.int p.length) := if_pos (by rw [sizeLine_eq]; show p.length ≤ _; omega)
theorem dInS_sgn (c : Nat) (z : Str) : dInS (sgn c) (.str z) = some (.bool (decide (c ∈ tl z))) := by
  show some (PyData.bool (strIn ⟨#[c]⟩ z)) = _
  rw [strIn_sgn]
theorem dAdd_sgn (w : List Nat) (c : Nat) (h : w.length < 1000) : dAdd (lst w) (sgn c) = some (lst (w ++ [c])) := by
  rw [show sgn c = .str (⟨[c].toArray⟩ : Str) from rfl, dAdd_s, app_l]
  show w.length + 1 ≤ _
  rw [size_eq]; omega
theorem dMul_str {x : Str} {n : Int} (h : (DL.inR n && (decide (n < 1) || decide (x.length * n.toNat ≤ sizeLine))) = true) : dMul (.str x) (.int n) = some (.str (strMul x n)) := by
  show (if _ then some _ else none) = _
  rw [if_pos h]
theorem dNe_l (a b : Str) (h : a = b) : dNe (.str a) (.str b) = some (.bool false) := by subst h; exact dNe_same a
theorem ix_list (ds : List D) (P : D → Prop) (h : ∀ d ∈ ds, P d) {i : Int} (h0 : 0 ≤ i) (h1 : i < ds.length) : ∃ d, dIx (.list ds) (.int i) = some d ∧ P d := by
  have hl : i.toNat < ds.length := by omega
  refine ⟨ds[i.toNat], ?_, h _ (List.getElem_mem hl)⟩
  show atI ds i = _
  rw [atI_int h0 h1, List.getElem?_eq_getElem hl]
theorem ix0 (a : Nat) (l : List Nat) (h : l.length < 900) : dIx (lst (a :: l)) (.int 0) = some (sgn a) := by
  show (if (a :: l).length ≤ sizeLine then (atI (a :: l) 0).map fun c => PyData.str ⟨#[c]⟩ else none) = _
  rw [if_pos (by rw [size_eq]; simp; omega), atI_int (by decide) (by rw [List.length_cons]; omega)] <;> rfl
theorem dEq_int (i j : Int) : dEq (.int i) (.int j) = some (.bool (decide (i = j))) := rfl
theorem bool_repr (b : Bool) : ∃ z, cRepr [.bool b] = some (.str z) := by
  cases b <;> exact ⟨_, cRepr_ok (by decide +kernel)⟩
end DL
end

section
namespace Lw
open PySem PySem.Spec PyProof.Rows L2 DL
def tab_ShiftError : List (Str × Bool) := [("BadNumber", true), ("NotWord", true), ("NotMachine", true)]
def is_NotMachine : List (Str × Bool) := [("BadNumber", false), ("NotWord", false), ("NotMachine", true)]
def is_NotWord : List (Str × Bool) := [("BadNumber", false), ("NotWord", true), ("NotMachine", false)]
def is_NotRule : List (Str × Bool) := [("BadNumber", false), ("NotWord", false), ("NotMachine", false)]
def is_BadNumber : List (Str × Bool) := [("BadNumber", true), ("NotWord", false), ("NotMachine", false)]
def is_TooLarge : List (Str × Bool) := [("BadNumber", false), ("NotWord", false), ("NotMachine", false)]
def is_ShiftError : List (Str × Bool) := [("BadNumber", true), ("NotWord", true), ("NotMachine", true)]
/-! check_size(k 0) -/
abbrev pl_check_size : List Md := [{ sh := .pur, fx := false }]
abbrev pm_check_size : Ms := msOf pl_check_size
abbrev ms_check_size : Ms := msOf (pl_check_size ++ [])
def g_check_size : Rho → SR := (sIf (tNot (tBool (eChain dLe dLe (oVal (eCst (.int 2))) (oVal (eVar 0)) (oVal (eCall cLen (aCons (oVal (eCst (.str "abcdef"))) aNil)))))) (sRaise "BadNumber") sNil)
def F_check_size : FS := bodyF pm_check_size 1 0 g_check_size

/-! has_letters(k 0, word 1, letter 2) -/
abbrev pl_has_letters : List Md := [{ sh := .pur, fx := false }, { sh := .pur, fx := false }]
abbrev pm_has_letters : Ms := msOf pl_has_letters
abbrev ms_has_letters : Ms := msOf (pl_has_letters ++ [{ sh := .pur, fx := false }])
abbrev b_has_letters_1 : Rho → R D := (eBin dIn (oVal (eVar 2)) (oVal (eSl (oVal (eCst (.str "abcdef"))) pNone (pSome (eVar 0)))))
def g_has_letters : Rho → SR := (sRet (eCall cAll (aCons (oVal (eComp [2] (iAny (eVar 1)) (kName 2) tYesR b_has_letters_1)) aNil)))
def F_has_letters : FS := bodyF pm_has_letters 2 1 g_has_letters

/-! walked(machine 0, state 1, word 2, parts 3, letter 4, out 5) -/
abbrev pl_walked : List Md := [{ sh := .pur, fx := false }, { sh := .pur, fx := false }, { sh := .pur, fx := false }]
abbrev pm_walked : Ms := msOf pl_walked
abbrev ms_walked : Ms := msOf (pl_walked ++ [{ sh := .lst, fx := false }, { sh := .pur, fx := false }, { sh := .pur, fx := false }])
abbrev b_walked_1 : Rho → SR := (sSeq (sAsg (kSeq 2 (kCons (kName 5) (kCons (kName 1) kNil))) (eBin dIx (oVal (eBin dIx (oVal (eBin dIx (oVal (eBin dIx (oVal (eVar 0)) (oVal (eCst (.int 2))))) (oVal (eVar 1)))) (oVal (eCst (.int 1))))) (oVal (eMeth "str" mIndexS (oVal (eCst (.str "abcdef"))) (aCons (oVal (eVar 4)) aNil)))))
  (sExpr (eMut 3 mAppend (aCons (oVal (eVar 5)) aNil))))
def g_walked : Rho → SR := (sSeq (sSet 3 (eLst aNil))
  (sSeq (sFor (iAny (eVar 2)) (kName 4) b_walked_1)
  (sRet (eTup (aCons (oVal (eMeth "str" mJoin (oVal (eCst (.str ""))) (aCons (oSlot 3) aNil))) (aCons (oVal (eVar 1)) aNil))))))
def F_walked : FS := bodyF pm_walked 3 3 g_walked

/-! _law_number(_law_cell 0) -/
abbrev pl__law_number : List Md := [{ sh := .pur, fx := false }]
abbrev pm__law_number : Ms := msOf pl__law_number
abbrev ms__law_number : Ms := msOf (pl__law_number ++ [])
def g__law_number : Rho → SR := (sSeq (sIf (tBool (eBin dLt (oVal (eVar 0)) (oVal (eCst (.int 0))))) (sRet (eBin dSub (oVal (eCst (.int 0))) (oVal (eVar 0)))) sNil)
  (sRet (eVar 0)))
def F__law_number : FS := bodyF pm__law_number 1 0 g__law_number

/-! _law_next(_law_draws_here 0) -/
abbrev pl__law_next : List Md := [{ sh := .lst, fx := true }]
abbrev pm__law_next : Ms := msOf pl__law_next
abbrev ms__law_next : Ms := msOf (pl__law_next ++ [])
def g__law_next : Rho → SR := (sSeq (sIf (tTru (oSlot 0)) (sRet (eMut 0 mPop aNil)) sNil)
  (sRet (eCst (.int 0))))
def F__law_next : FS := bodyF pm__law_next 1 0 g__law_next

/-! _law_walked(_law_machine_here 0, _law_state 1, _law_word 2, _law_text_here 3, _law_letter 4, _law_out_here 5) -/
abbrev pl__law_walked : List Md := [{ sh := .pur, fx := false }, { sh := .pur, fx := false }, { sh := .pur, fx := false }]
abbrev pm__law_walked : Ms := msOf pl__law_walked
abbrev ms__law_walked : Ms := msOf (pl__law_walked ++ [{ sh := .pur, fx := false }, { sh := .pur, fx := false }, { sh := .pur, fx := false }])
abbrev b__law_walked_1 : Rho → SR := (sSeq (sAsg (kSeq 2 (kCons (kName 5) (kCons (kName 1) kNil))) (eBin dIx (oVal (eBin dIx (oVal (eBin dIx (oVal (eBin dIx (oVal (eVar 0)) (oVal (eCst (.int 2))))) (oVal (eVar 1)))) (oVal (eCst (.int 1))))) (oVal (eMeth "str" mIndexS (oVal (eCst (.str "abcdef"))) (aCons (oVal (eVar 4)) aNil)))))
  (sSet 3 (eBin dAdd4 (oVal (eVar 3)) (oVal (eVar 5)))))
def g__law_walked : Rho → SR := (sSeq (sSet 3 (eCst (.str "")))
  (sSeq (sFor (iAny (eVar 2)) (kName 4) b__law_walked_1)
  (sRet (eLst (aCons (oVal (eVar 3)) (aCons (oVal (eVar 1)) aNil))))))
def F__law_walked : FS := bodyF pm__law_walked 3 3 g__law_walked

/-! _law_kind(_law_error 0, _law_kinds 1) -/
abbrev pl__law_kind : List Md := [{ sh := .pur, fx := false }]
abbrev pm__law_kind : Ms := msOf pl__law_kind
abbrev ms__law_kind : Ms := msOf (pl__law_kind ++ [{ sh := .lst, fx := false }])
def g__law_kind : Str → Rho → SR := fun c_ => (sSeq (sSet 1 (eLst aNil))
  (sSeq (sIf (tTru (oVal (eIsE 0 c_ is_NotMachine))) (sExpr (eMut 1 mAppend (aCons (oVal (eCst (.str "machine"))) aNil))) sNil)
  (sSeq (sIf (tTru (oVal (eIsE 0 c_ is_NotWord))) (sExpr (eMut 1 mAppend (aCons (oVal (eCst (.str "word"))) aNil))) sNil)
  (sSeq (sIf (tTru (oVal (eIsE 0 c_ is_NotRule))) (sExpr (eMut 1 mAppend (aCons (oVal (eCst (.str "rule"))) aNil))) sNil)
  (sSeq (sIf (tTru (oVal (eIsE 0 c_ is_BadNumber))) (sExpr (eMut 1 mAppend (aCons (oVal (eCst (.str "number"))) aNil))) sNil)
  (sSeq (sIf (tTru (oVal (eIsE 0 c_ is_TooLarge))) (sExpr (eMut 1 mAppend (aCons (oVal (eCst (.str "large"))) aNil))) sNil)
  (sSeq (sIf (tAnd (tBool (eBin dEq (oVal (eCall cLen (aCons (oSlot 1) aNil))) (oVal (eCst (.int 1))))) (tTru (oVal (eIsE 0 c_ is_ShiftError)))) (sRet (eBin dAdd4 (oVal (eCst (.str "!"))) (oVal (eBin dIx (oSlot 1) (oVal (eCst (.int 0))))))) sNil)
  (sRet (eCst (.str "!other"))))))))))
def F__law_kind : Str → Option D := bodyE 1 g__law_kind

/-! is_word(k 0, word 1) -/
abbrev pl_is_word : List Md := [{ sh := .pur, fx := false }, { sh := .pur, fx := false }]
abbrev pm_is_word : Ms := msOf pl_is_word
abbrev ms_is_word : Ms := msOf (pl_is_word ++ [])
def g_is_word : Rho → SR := (sSeq (sExpr (eFn F_check_size [.e (eVar 0)]))
  (sRet (eAnd (eBin dLe (oVal (eCall cLen (aCons (oVal (eVar 1)) aNil))) (oVal (eCst (.int 60)))) (eFn F_has_letters [.e (eVar 0), .e (eVar 1)]))))
def F_is_word : FS := bodyF pm_is_word 2 0 g_is_word

/-! is_string(k 0, text 1) -/
abbrev pl_is_string : List Md := [{ sh := .pur, fx := false }, { sh := .pur, fx := false }]
abbrev pm_is_string : Ms := msOf pl_is_string
abbrev ms_is_string : Ms := msOf (pl_is_string ++ [])
def g_is_string : Rho → SR := (sRet (eAnd (eBin dLe (oVal (eCall cLen (aCons (oVal (eVar 1)) aNil))) (oVal (eCst (.int 60)))) (eFn F_has_letters [.e (eVar 0), .e (eVar 1)])))
def F_is_string : FS := bodyF pm_is_string 2 0 g_is_string

/-! changed(machine 0, word 1, text 2, state 3) -/
abbrev pl_changed : List Md := [{ sh := .pur, fx := false }, { sh := .pur, fx := false }]
abbrev pm_changed : Ms := msOf pl_changed
abbrev ms_changed : Ms := msOf (pl_changed ++ [{ sh := .pur, fx := false }, { sh := .pur, fx := false }])
def g_changed : Rho → SR := (sSeq (sAsg (kSeq 2 (kCons (kName 2) (kCons (kName 3) kNil))) (eFn F_walked [.e (eVar 0), .e (eCst (.int 0)), .e (eVar 1)]))
  (sRet (eBin dAdd4 (oVal (eBin dAdd4 (oVal (eBin dIx (oVal (eVar 0)) (oVal (eCst (.int 1))))) (oVal (eVar 2)))) (oVal (eBin dIx (oVal (eBin dIx (oVal (eBin dIx (oVal (eVar 0)) (oVal (eCst (.int 2))))) (oVal (eVar 3)))) (oVal (eCst (.int 0))))))))
def F_changed : FS := bodyF pm_changed 2 2 g_changed

/-! still(k 0, letter 1) -/
abbrev pl_still : List Md := [{ sh := .pur, fx := false }]
abbrev pm_still : Ms := msOf pl_still
abbrev ms_still : Ms := msOf (pl_still ++ [{ sh := .pur, fx := false }])
abbrev b_still_1 : Rho → R D := (eTup (aCons (oVal (eVar 1)) (aCons (oVal (eCst (.int 0))) aNil)))
def g_still : Rho → SR := (sSeq (sExpr (eFn F_check_size [.e (eVar 0)]))
  (sRet (eTup (aCons (oVal (eVar 0)) (aCons (oVal (eCst (.str ""))) (aCons (oVal (eTup (aCons (oVal (eTup (aCons (oVal (eCst (.str ""))) (aCons (oVal (eCall cTuple (aCons (oVal (eComp [1] (iAny (eSl (oVal (eCst (.str "abcdef"))) pNone (pSome (eVar 0)))) (kName 1) tYesR b_still_1)) aNil))) aNil)))) aNil))) aNil))))))
def F_still : FS := bodyF pm_still 1 1 g_still

/-! _law_draws(_law_script 0, _law_draws_here 1, _law_cell 2, _law_rest 3, _law_k 4, _law_once 5, _law_twice 6) -/
abbrev pl__law_draws : List Md := [{ sh := .pur, fx := false }]
abbrev pm__law_draws : Ms := msOf pl__law_draws
abbrev ms__law_draws : Ms := msOf (pl__law_draws ++ [{ sh := .lst, fx := false }, { sh := .pur, fx := false }, { sh := .pur, fx := false }, { sh := .pur, fx := false }, { sh := .pur, fx := false }, { sh := .pur, fx := false }])
abbrev b__law_draws_1 : Rho → SR := (sSeq (sIf (tBool (eBin dEq (oVal (eVar 3)) (oVal (eCst (.int 0))))) sBreak sNil)
  (sSeq (sExpr (eMut 1 mAppend (aCons (oVal (eBin dMod (oVal (eCall cInt (aCons (oVal (eVar 3)) aNil))) (oVal (eCst (.int 1000))))) aNil)))
  (sSet 3 (eBin dFdiv (oVal (eVar 3)) (oVal (eCst (.int 1000)))))))
abbrev b__law_draws_2 : Rho → SR := (sSeq (sSet 3 (eFn F__law_number [.e (eVar 2)]))
  (sIf (tBool (eBin dGe (oVal (eVar 3)) (oVal (eCst (.int 1000000000000000000))))) (sFor (iRng1 (aCons (oVal (eCst (.int 60))) aNil)) (kName 4) b__law_draws_1) (sSeq (sSet 5 (eBin dMod (oVal (eCall cInt (aCons (oVal (eBin dAdd4 (oVal (eBin dMul5 (oVal (eVar 3)) (oVal (eCst (.int 48271))))) (oVal (eCst (.int 11))))) aNil))) (oVal (eCst (.int 2147483647)))))
  (sSeq (sSet 6 (eBin dMod (oVal (eCall cInt (aCons (oVal (eBin dAdd4 (oVal (eBin dMul5 (oVal (eVar 5)) (oVal (eCst (.int 69621))))) (oVal (eVar 3)))) aNil))) (oVal (eCst (.int 2147483629)))))
  (sExpr (eMut 1 mExtend (aCons (oVal (eLst (aCons (oVal (eBin dMod (oVal (eCall cInt (aCons (oVal (eVar 3)) aNil))) (oVal (eCst (.int 1000))))) (aCons (oVal (eBin dMod (oVal (eCall cInt (aCons (oVal (eVar 5)) aNil))) (oVal (eCst (.int 1000))))) (aCons (oVal (eBin dMod (oVal (eCall cInt (aCons (oVal (eVar 6)) aNil))) (oVal (eCst (.int 1000))))) aNil))))) aNil)))))))
def g__law_draws : Rho → SR := (sSeq (sSet 1 (eLst aNil))
  (sSeq (sFor (iAny (eVar 0)) (kName 2) b__law_draws_2)
  (sRet (eMv 1))))
def F__law_draws : FS := bodyF pm__law_draws 1 6 g__law_draws

/-! _law_text(_law_draws_here 0, _law_k 1, _law_most 2, _law_size 3, _law_j 4) -/
abbrev pl__law_text : List Md := [{ sh := .lst, fx := true }, { sh := .pur, fx := false }, { sh := .pur, fx := false }]
abbrev pm__law_text : Ms := msOf pl__law_text
abbrev ms__law_text : Ms := msOf (pl__law_text ++ [{ sh := .pur, fx := false }, { sh := .pur, fx := false }])
abbrev b__law_text_1 : Rho → R D := (eBin dIx (oVal (eCst (.str "abcdef"))) (oVal (eBin dMod (oVal (eCall cInt (aCons (oVal (eFn F__law_next [.s 0])) aNil))) (oVal (eVar 1)))))
def g__law_text : Rho → SR := (sSeq (sSet 3 (eBin dMod (oVal (eCall cInt (aCons (oVal (eFn F__law_next [.s 0])) aNil))) (oVal (eBin dAdd4 (oVal (eVar 2)) (oVal (eCst (.int 1)))))))
  (sRet (eMeth "str" mJoin (oVal (eCst (.str ""))) (aCons (oVal (eComp [4] (iRng1 (aCons (oVal (eVar 3)) aNil)) (kName 4) tYesR b__law_text_1)) aNil))))
def F__law_text : FS := bodyF pm__law_text 3 2 g__law_text

/-! _law_form(_law_machine_here 0, _law_word 1, _law_text_here 2, _law_state 3) -/
abbrev pl__law_form : List Md := [{ sh := .pur, fx := false }, { sh := .pur, fx := false }]
abbrev pm__law_form : Ms := msOf pl__law_form
abbrev ms__law_form : Ms := msOf (pl__law_form ++ [{ sh := .pur, fx := false }, { sh := .pur, fx := false }])
def g__law_form : Rho → SR := (sSeq (sAsg (kSeq 2 (kCons (kName 2) (kCons (kName 3) kNil))) (eFn F__law_walked [.e (eVar 0), .e (eCst (.int 0)), .e (eVar 1)]))
  (sRet (eBin dAdd4 (oVal (eBin dAdd4 (oVal (eBin dIx (oVal (eVar 0)) (oVal (eCst (.int 1))))) (oVal (eVar 2)))) (oVal (eBin dIx (oVal (eBin dIx (oVal (eBin dIx (oVal (eVar 0)) (oVal (eCst (.int 2))))) (oVal (eVar 3)))) (oVal (eCst (.int 0))))))))
def F__law_form : FS := bodyF pm__law_form 2 2 g__law_form

/-! check_word(k 0, word 1) -/
abbrev pl_check_word : List Md := [{ sh := .pur, fx := false }, { sh := .pur, fx := false }]
abbrev pm_check_word : Ms := msOf pl_check_word
abbrev ms_check_word : Ms := msOf (pl_check_word ++ [])
def g_check_word : Rho → SR := (sIf (tNot (tTru (oVal (eFn F_is_word [.e (eVar 0), .e (eVar 1)])))) (sRaise "NotWord") sNil)
def F_check_word : FS := bodyF pm_check_word 2 0 g_check_word

/-! is_row(k 0, count 1, row 2, last 3, entries 4, out 5, following 6) -/
abbrev pl_is_row : List Md := [{ sh := .pur, fx := false }, { sh := .pur, fx := false }, { sh := .pur, fx := false }]
abbrev pm_is_row : Ms := msOf pl_is_row
abbrev ms_is_row : Ms := msOf (pl_is_row ++ [{ sh := .pur, fx := false }, { sh := .pur, fx := false }, { sh := .pur, fx := false }, { sh := .pur, fx := false }])
abbrev b_is_row_1 : Rho → R D := (eAnd (eFn F_is_string [.e (eVar 0), .e (eVar 5)]) (eChain dLe dLt (oVal (eCst (.int 0))) (oVal (eVar 6)) (oVal (eVar 1))))
def g_is_row : Rho → SR := (sSeq (sAsg (kSeq 2 (kCons (kName 3) (kCons (kName 4) kNil))) (eVar 2))
  (sSeq (sIf (tOr (tNot (tTru (oVal (eFn F_is_string [.e (eVar 0), .e (eVar 3)])))) (tBool (eBin dNe (oVal (eCall cLen (aCons (oVal (eVar 4)) aNil))) (oVal (eVar 0))))) (sRet (eCst (.bool false))) sNil)
  (sRet (eCall cAll (aCons (oVal (eComp [5, 6] (iAny (eVar 4)) (kSeq 2 (kCons (kName 5) (kCons (kName 6) kNil))) tYesR b_is_row_1)) aNil)))))
def F_is_row : FS := bodyF pm_is_row 3 4 g_is_row

/-! _law_out(_law_draws_here 0, _law_k 1, _law_letter 2, _law_draw 3) -/
abbrev pl__law_out : List Md := [{ sh := .lst, fx := true }, { sh := .pur, fx := false }, { sh := .pur, fx := false }]
abbrev pm__law_out : Ms := msOf pl__law_out
abbrev ms__law_out : Ms := msOf (pl__law_out ++ [{ sh := .pur, fx := false }])
def g__law_out : Rho → SR := (sSeq (sSet 3 (eBin dMod (oVal (eCall cInt (aCons (oVal (eFn F__law_next [.s 0])) aNil))) (oVal (eCst (.int 6)))))
  (sSeq (sIf (tBool (eBin dLt (oVal (eVar 3)) (oVal (eCst (.int 3))))) (sRet (eBin dIx (oVal (eCst (.str "abcdef"))) (oVal (eVar 2)))) sNil)
  (sSeq (sIf (tBool (eBin dEq (oVal (eVar 3)) (oVal (eCst (.int 3))))) (sRet (eCst (.str ""))) sNil)
  (sRet (eFn F__law_text [.s 0, .e (eVar 1), .e (eBin dSub (oVal (eVar 3)) (oVal (eCst (.int 3))))])))))
def F__law_out : FS := bodyF pm__law_out 3 1 g__law_out

/-! _law_still(_law_k 0, _law_error 1) -/
abbrev pl__law_still : List Md := [{ sh := .pur, fx := false }]
abbrev pm__law_still : Ms := msOf pl__law_still
abbrev ms__law_still : Ms := msOf (pl__law_still ++ [{ sh := .pur, fx := false }])
abbrev b__law_still_1 : Rho → SR := (sRet (eFn F_still [.e (eVar 0)]))
def g__law_still : Rho → SR := (sTryAs 1 tab_ShiftError b__law_still_1 (fun c_ => (sRet (eFnE 1 (F__law_kind c_)))))
def F__law_still : FS := bodyF pm__law_still 1 1 g__law_still

/-! is_formed(machine 0, most 1, k 2, first 3, rows 4, row 5) -/
abbrev pl_is_formed : List Md := [{ sh := .pur, fx := false }, { sh := .pur, fx := false }]
abbrev pm_is_formed : Ms := msOf pl_is_formed
abbrev ms_is_formed : Ms := msOf (pl_is_formed ++ [{ sh := .pur, fx := false }, { sh := .pur, fx := false }, { sh := .pur, fx := false }, { sh := .pur, fx := false }])
abbrev b_is_formed_1 : Rho → R D := (eFn F_is_row [.e (eVar 2), .e (eCall cLen (aCons (oVal (eVar 4)) aNil)), .e (eVar 5)])
def g_is_formed : Rho → SR := (sSeq (sAsg (kSeq 3 (kCons (kName 2) (kCons (kName 3) (kCons (kName 4) kNil)))) (eVar 0))
  (sSeq (sIf (tOr (tNot (tBool (eChain dLe dLe (oVal (eCst (.int 2))) (oVal (eVar 2)) (oVal (eCst (.int 6)))))) (tOr (tNot (tBool (eChain dLe dLe (oVal (eCst (.int 1))) (oVal (eCall cLen (aCons (oVal (eVar 4)) aNil))) (oVal (eVar 1))))) (tNot (tTru (oVal (eFn F_is_string [.e (eVar 2), .e (eVar 3)])))))) (sRet (eCst (.bool false))) sNil)
  (sRet (eCall cAll (aCons (oVal (eComp [5] (iAny (eVar 4)) (kName 5) tYesR b_is_formed_1)) aNil)))))
def F_is_formed : FS := bodyF pm_is_formed 2 4 g_is_formed

/-! _law_machine(_law_draws_here 0, _law_k 1, _law_most 2, _law_count 3, _law_rows 4, _law_state 5, _law_entries 6, _law_letter 7, _law_out_here 8, _law_last 9) -/
abbrev pl__law_machine : List Md := [{ sh := .lst, fx := true }, { sh := .pur, fx := false }, { sh := .pur, fx := false }]
abbrev pm__law_machine : Ms := msOf pl__law_machine
abbrev ms__law_machine : Ms := msOf (pl__law_machine ++ [{ sh := .pur, fx := false }, { sh := .lst, fx := false }, { sh := .pur, fx := false }, { sh := .lst, fx := false }, { sh := .pur, fx := false }, { sh := .pur, fx := false }, { sh := .pur, fx := false }])
abbrev b__law_machine_1 : Rho → SR := (sSeq (sSet 8 (eFn F__law_out [.s 0, .e (eVar 1), .e (eVar 7)]))
  (sExpr (eMut 6 mAppend (aCons (oVal (eTup (aCons (oVal (eVar 8)) (aCons (oVal (eBin dMod (oVal (eCall cInt (aCons (oVal (eFn F__law_next [.s 0])) aNil))) (oVal (eVar 3)))) aNil)))) aNil))))
abbrev b__law_machine_2 : Rho → SR := (sSeq (sSet 6 (eLst aNil))
  (sSeq (sFor (iRng1 (aCons (oVal (eVar 1)) aNil)) (kName 7) b__law_machine_1)
  (sSeq (sSet 9 (eCst (.str "")))
  (sSeq (sIf (tBool (eBin dEq (oVal (eBin dMod (oVal (eCall cInt (aCons (oVal (eFn F__law_next [.s 0])) aNil))) (oVal (eCst (.int 3))))) (oVal (eCst (.int 0))))) (sSet 9 (eFn F__law_text [.s 0, .e (eVar 1), .e (eCst (.int 2))])) sNil)
  (sExpr (eMut 4 mAppend (aCons (oVal (eTup (aCons (oVal (eVar 9)) (aCons (oVal (eCall cTuple (aCons (oSlot 6) aNil))) aNil)))) aNil)))))))
def g__law_machine : Rho → SR := (sSeq (sSet 3 (eBin dAdd4 (oVal (eCst (.int 1))) (oVal (eBin dMod (oVal (eCall cInt (aCons (oVal (eFn F__law_next [.s 0])) aNil))) (oVal (eVar 2))))))
  (sSeq (sSet 4 (eLst aNil))
  (sSeq (sFor (iRng1 (aCons (oVal (eVar 3)) aNil)) (kName 5) b__law_machine_2)
  (sRet (eTup (aCons (oVal (eVar 1)) (aCons (oVal (eFn F__law_text [.s 0, .e (eVar 1), .e (eBin dMod (oVal (eCall cInt (aCons (oVal (eFn F__law_next [.s 0])) aNil))) (oVal (eCst (.int 2))))])) (aCons (oVal (eCall cTuple (aCons (oSlot 4) aNil))) aNil))))))))
def F__law_machine : FS := bodyF pm__law_machine 3 7 g__law_machine

/-! is_wide(machine 0) -/
abbrev pl_is_wide : List Md := [{ sh := .pur, fx := false }]
abbrev pm_is_wide : Ms := msOf pl_is_wide
abbrev ms_is_wide : Ms := msOf (pl_is_wide ++ [])
def g_is_wide : Rho → SR := (sRet (eFn F_is_formed [.e (eVar 0), .e (eCst (.int 2000))]))
def F_is_wide : FS := bodyF pm_is_wide 1 0 g_is_wide

/-! check_wide(machine 0) -/
abbrev pl_check_wide : List Md := [{ sh := .pur, fx := false }]
abbrev pm_check_wide : Ms := msOf pl_check_wide
abbrev ms_check_wide : Ms := msOf (pl_check_wide ++ [])
def g_check_wide : Rho → SR := (sIf (tNot (tTru (oVal (eFn F_is_wide [.e (eVar 0)])))) (sRaise "NotMachine") sNil)
def F_check_wide : FS := bodyF pm_check_wide 1 0 g_check_wide

/-! check_call(machine 0, word 1) -/
abbrev pl_check_call : List Md := [{ sh := .pur, fx := false }, { sh := .pur, fx := false }]
abbrev pm_check_call : Ms := msOf pl_check_call
abbrev ms_check_call : Ms := msOf (pl_check_call ++ [])
def g_check_call : Rho → SR := (sSeq (sExpr (eFn F_check_wide [.e (eVar 0)]))
  (sExpr (eFn F_check_word [.e (eBin dIx (oVal (eVar 0)) (oVal (eCst (.int 0)))), .e (eVar 1)])))
def F_check_call : FS := bodyF pm_check_call 2 0 g_check_call

/-! form(machine 0, word 1) -/
abbrev pl_form : List Md := [{ sh := .pur, fx := false }, { sh := .pur, fx := false }]
abbrev pm_form : Ms := msOf pl_form
abbrev ms_form : Ms := msOf (pl_form ++ [])
def g_form : Rho → SR := (sSeq (sExpr (eFn F_check_call [.e (eVar 0), .e (eVar 1)]))
  (sRet (eFn F_changed [.e (eVar 0), .e (eVar 1)])))
def F_form : FS := bodyF pm_form 2 0 g_form

/-! written(machine 0, word 1) -/
abbrev pl_written : List Md := [{ sh := .pur, fx := false }, { sh := .pur, fx := false }]
abbrev pm_written : Ms := msOf pl_written
abbrev ms_written : Ms := msOf (pl_written ++ [])
def g_written : Rho → SR := (sSeq (sExpr (eFn F_check_call [.e (eVar 0), .e (eVar 1)]))
  (sRet (eBin dAdd4 (oVal (eBin dIx (oVal (eVar 0)) (oVal (eCst (.int 1))))) (oVal (eBin dIx (oVal (eFn F_walked [.e (eVar 0), .e (eCst (.int 0)), .e (eVar 1)])) (oVal (eCst (.int 0))))))))
def F_written : FS := bodyF pm_written 2 0 g_written

/-! state_behind(machine 0, word 1) -/
abbrev pl_state_behind : List Md := [{ sh := .pur, fx := false }, { sh := .pur, fx := false }]
abbrev pm_state_behind : Ms := msOf pl_state_behind
abbrev ms_state_behind : Ms := msOf (pl_state_behind ++ [])
def g_state_behind : Rho → SR := (sSeq (sExpr (eFn F_check_call [.e (eVar 0), .e (eVar 1)]))
  (sRet (eBin dIx (oVal (eFn F_walked [.e (eVar 0), .e (eCst (.int 0)), .e (eVar 1)])) (oVal (eCst (.int 1))))))
def F_state_behind : FS := bodyF pm_state_behind 2 0 g_state_behind

/-! _law_told(_law_way 0, _law_machine_here 1, _law_word 2, _law_error 3) -/
abbrev pl__law_told : List Md := [{ sh := .pur, fx := false }, { sh := .pur, fx := false }, { sh := .pur, fx := false }]
abbrev pm__law_told : Ms := msOf pl__law_told
abbrev ms__law_told : Ms := msOf (pl__law_told ++ [{ sh := .pur, fx := false }])
abbrev b__law_told_1 : Rho → SR := (sSeq (sIf (tBool (eBin dEq (oVal (eVar 0)) (oVal (eCst (.int 0))))) (sRet (eFn F_form [.e (eVar 1), .e (eVar 2)])) sNil)
  (sSeq (sIf (tBool (eBin dEq (oVal (eVar 0)) (oVal (eCst (.int 1))))) (sRet (eFn F_written [.e (eVar 1), .e (eVar 2)])) sNil)
  (sRet (eFn F_state_behind [.e (eVar 1), .e (eVar 2)]))))
def g__law_told : Rho → SR := (sTryAs 3 tab_ShiftError b__law_told_1 (fun c_ => (sRet (eFnE 3 (F__law_kind c_)))))
def F__law_told : FS := bodyF pm__law_told 3 1 g__law_told

/-! law(_law_script 0, _law_draws_here 1, _law_k 2, _law_machine_here 3, _law_word 4, _law_text_here 5, _law_state 6, _law_due 7, _law_bad 8, _law_strange 9, _law_way 10, _law_size 11, _law_calm 12, _law_other 13, _law_j 14) -/
abbrev pl_law : List Md := [{ sh := .pur, fx := false }]
abbrev pm_law : Ms := msOf pl_law
abbrev ms_law : Ms := msOf (pl_law ++ [{ sh := .lst, fx := false }, { sh := .pur, fx := false }, { sh := .pur, fx := false }, { sh := .pur, fx := false }, { sh := .pur, fx := false }, { sh := .pur, fx := false }, { sh := .pur, fx := false }, { sh := .pur, fx := false }, { sh := .pur, fx := false }, { sh := .pur, fx := false }, { sh := .pur, fx := false }, { sh := .pur, fx := false }, { sh := .pur, fx := false }, { sh := .pur, fx := false }])
abbrev b_law_1 : Rho → SR := (sSeq (sIf (tBool (eBin dNe (oVal (eCall cRepr (aCons (oVal (eFn F__law_told [.e (eVar 10), .e (eVar 3), .e (eVar 4)])) aNil))) (oVal (eCall cRepr (aCons (oVal (eBin dIx (oVal (eVar 7)) (oVal (eVar 10)))) aNil))))) (sRet (eCst (.bool false))) sNil)
  (sSeq (sIf (tOr (tBool (eBin dNe (oVal (eFn F__law_told [.e (eVar 10), .e (eVar 8), .e (eVar 9)])) (oVal (eCst (.str "!machine"))))) (tBool (eBin dNe (oVal (eFn F__law_told [.e (eVar 10), .e (eVar 3), .e (eVar 9)])) (oVal (eCst (.str "!word")))))) (sRet (eCst (.bool false))) sNil)
  (sIf (tAnd (tBool (eBin dLt (oVal (eVar 10)) (oVal (eCst (.int 2))))) (tNot (tTru (oVal (eInst "str" (oVal (eFn F__law_told [.e (eVar 10), .e (eVar 3), .e (eBin dMul5 (oVal (eCst (.str "a"))) (oVal (eCst (.int 60))))]))))))) (sRet (eCst (.bool false))) sNil)))
abbrev b_law_2 : Rho → R D := (eTup (aCons (oVal (eBin dIx (oVal (eCst (.str "abcdef"))) (oVal (eVar 14)))) (aCons (oVal (eCst (.int 0))) aNil)))
def g_law : Rho → SR := (sSeq (sSet 1 (eFn F__law_draws [.e (eVar 0)]))
  (sSeq (sExpr (eMut 1 mReverse aNil))
  (sSeq (sSet 2 (eBin dIx (oVal (eLst (aCons (oVal (eCst (.int 2))) (aCons (oVal (eCst (.int 2))) (aCons (oVal (eCst (.int 2))) (aCons (oVal (eCst (.int 3))) (aCons (oVal (eCst (.int 3))) (aCons (oVal (eCst (.int 4))) (aCons (oVal (eCst (.int 5))) (aCons (oVal (eCst (.int 6))) aNil)))))))))) (oVal (eBin dMod (oVal (eCall cInt (aCons (oVal (eFn F__law_next [.s 1])) aNil))) (oVal (eCst (.int 8)))))))
  (sSeq (sSet 3 (eFn F__law_machine [.s 1, .e (eVar 2), .e (eCst (.int 4))]))
  (sSeq (sSet 4 (eFn F__law_text [.s 1, .e (eVar 2), .e (eCst (.int 8))]))
  (sSeq (sAsg (kSeq 2 (kCons (kName 5) (kCons (kName 6) kNil))) (eFn F__law_walked [.e (eVar 3), .e (eCst (.int 0)), .e (eVar 4)]))
  (sSeq (sSet 7 (eLst (aCons (oVal (eFn F__law_form [.e (eVar 3), .e (eVar 4)])) (aCons (oVal (eBin dAdd4 (oVal (eBin dIx (oVal (eVar 3)) (oVal (eCst (.int 1))))) (oVal (eVar 5)))) (aCons (oVal (eVar 6)) aNil)))))
  (sSeq (sSet 8 (eBin dIx (oVal (eLst (aCons (oVal (eTup (aCons (oVal (eCst (.int 7))) (aCons (oVal (eBin dIx (oVal (eVar 3)) (oVal (eCst (.int 1))))) (aCons (oVal (eBin dIx (oVal (eVar 3)) (oVal (eCst (.int 2))))) aNil))))) (aCons (oVal (eTup (aCons (oVal (eVar 2)) (aCons (oVal (eCst (.str "z"))) (aCons (oVal (eBin dIx (oVal (eVar 3)) (oVal (eCst (.int 2))))) aNil))))) (aCons (oVal (eTup (aCons (oVal (eVar 2)) (aCons (oVal (eCst (.str ""))) (aCons (oVal (eTup aNil)) aNil))))) aNil))))) (oVal (eBin dMod (oVal (eCall cInt (aCons (oVal (eFn F__law_next [.s 1])) aNil))) (oVal (eCst (.int 3)))))))
  (sSeq (sSet 9 (eBin dIx (oVal (eLst (aCons (oVal (eBin dAdd4 (oVal (eVar 4)) (oVal (eBin dIx (oVal (eCst (.str "abcdefg"))) (oVal (eVar 2)))))) (aCons (oVal (eBin dMul5 (oVal (eCst (.str "a"))) (oVal (eCst (.int 61))))) (aCons (oVal (eBin dAdd4 (oVal (eCst (.str " "))) (oVal (eVar 4)))) aNil))))) (oVal (eBin dMod (oVal (eCall cInt (aCons (oVal (eFn F__law_next [.s 1])) aNil))) (oVal (eCst (.int 3)))))))
  (sSeq (sFor (iRng1 (aCons (oVal (eCst (.int 3))) aNil)) (kName 10) b_law_1)
  (sSeq (sSet 11 (eBin dMod (oVal (eCall cInt (aCons (oVal (eFn F__law_next [.s 1])) aNil))) (oVal (eCst (.int 9)))))
  (sSeq (sIf (tOr (tBool (eBin dLt (oVal (eVar 11)) (oVal (eCst (.int 2))))) (tBool (eBin dGt (oVal (eVar 11)) (oVal (eCst (.int 6)))))) (sRet (eBin dEq (oVal (eFn F__law_still [.e (eVar 11)])) (oVal (eCst (.str "!number"))))) sNil)
  (sSeq (sSet 12 (eFn F__law_still [.e (eVar 11)]))
  (sSeq (sIf (tBool (eBin dNe (oVal (eVar 12)) (oVal (eTup (aCons (oVal (eVar 11)) (aCons (oVal (eCst (.str ""))) (aCons (oVal (eTup (aCons (oVal (eTup (aCons (oVal (eCst (.str ""))) (aCons (oVal (eCall cTuple (aCons (oVal (eComp [14] (iRng1 (aCons (oVal (eVar 11)) aNil)) (kName 14) tYesR b_law_2)) aNil))) aNil)))) aNil))) aNil))))))) (sRet (eCst (.bool false))) sNil)
  (sSeq (sSet 13 (eFn F__law_text [.s 1, .e (eVar 11), .e (eCst (.int 9))]))
  (sRet (eBin dEq (oVal (eFn F_form [.e (eVar 12), .e (eVar 13)])) (oVal (eVar 13)))))))))))))))))))
def F_law : FS := bodyF pm_law 1 14 g_law
end Lw
end

section
namespace Lw
open PySem PySem.Spec PyProof.Rows L2 DL TL
theorem number_ex (i : Int) : ∃ n, F__law_number [.int i] = .ok (.int n) [none] ∧ 0 ≤ n := by
  by_cases h : i < 0
  · exact ⟨0 - i, body_ok (r := [some (.int i)]) (by simp [g__law_number, dLt, dOrd, dSub, h]), by omega⟩
  · exact ⟨i, body_ok (r := [some (.int i)]) (by simp [g__law_number, dLt, dOrd, dSub, h]), by omega⟩
theorem next_eq (ds : List Int) (g : Good ds) : ∃ d es, F__law_next [ilD ds] = .ok (.int d) [some (ilD es)] ∧ 0 ≤ d ∧ d < 1000 ∧ Good es ∧ es.length ≤ ds.length := by
  by_cases h : ds = []
  · subst h
    exact ⟨0, [], rfl, by omega, by omega, g, Nat.le_refl _⟩
  · obtain ⟨es, d, rfl⟩ : ∃ es d, ds = es ++ [d] := ⟨ds.dropLast, ds.getLast h, (List.dropLast_concat_getLast h).symm⟩
    have hd := g d (by simp)
    refine ⟨d, es, body_ok (r := [some (ilD es)]) ?_, hd.1, hd.2, fun x hx => g x (by simp [hx]), by simp⟩
    simp [g__law_next, tru, mPop]
/-- the inner turns of the draws -/
def JIn (L : Nat) (x : D) (n : Nat) (r : Rho) : Prop := ∃ ds c rest k o t, r = [some x, some (ilD ds), c, some (.int rest), k, o, t] ∧ 0 ≤ rest ∧ Good ds ∧ ds.length + n ≤ L
def BIn (L : Nat) (x : D) (r : Rho) : Prop := ∃ ds c rest k o t, r = [some x, some (ilD ds), c, some (.int rest), k, o, t] ∧ Good ds ∧ ds.length ≤ L
def JOut (x : D) (n : Nat) (r : Rho) : Prop := ∃ ds c rest k o t, r = [some x, some (ilD ds), c, rest, k, o, t] ∧ Good ds ∧ ds.length + 60 * n ≤ 4000
theorem draws_eq (ns : List Int) (h : ns.length ≤ 63) : ∃ ds, F__law_draws [ilD ns] = .ok (ilD ds) [none] ∧ Good ds := by
  have hs := size_eq
  have key := forE_invN (k := kName 2) (s := b__law_draws_2) (JOut (ilD ns)) (fun d => ∃ i, d = .int i) (by
    rintro n d r ⟨i, rfl⟩ ⟨ds, c, rest, k, o, t, rfl, g, hl⟩
    refine ⟨_, rfl, ?_⟩
    have i1 := i64_a
    have i2 := i64_b
    have m := m_bd
    obtain ⟨N, number_eq, hN⟩ := number_ex i
    by_cases hb : (1000000000000000000 : Int) ≤ N
    · obtain ⟨r', e, b⟩ := forE_invB (k := kName 4) (s := b__law_draws_1) (JIn (ds.length + 60) (ilD ns)) (BIn (ds.length + 60) (ilD ns)) (fun d => ∃ i, d = .int i) (by
          rintro r ⟨ds, c, rest, k, o, t, rfl, _, g, hl⟩
          exact ⟨ds, c, rest, k, o, t, rfl, g, hl⟩) (by
          rintro n' d' r ⟨i', rfl⟩ ⟨ds', c', rest', k', o', t', rfl, h0, g', hl'⟩
          refine ⟨_, rfl, ?_⟩
          by_cases hz : rest' = 0
          · refine ⟨[some (ilD ns), some (ilD ds'), c', some (.int rest'), some (.int i'), o', t'], .inr ⟨?_, ds', c', rest', _, o', t', rfl, g', by omega⟩⟩
            subst hz
            simp [dEq, dEqv]
          · refine ⟨[some (ilD ns), some (ilD (ds' ++ [rest' % 1000])), c', some (.int (rest' / 1000)), some (.int i'), o', t'], .inl ⟨.inl ?_, ds' ++ [rest' % 1000], c', rest' / 1000, _, o', t', rfl, Int.ediv_nonneg h0 (by decide), good_app g' (good_one (m _).1 (m _).2), by simp; omega⟩⟩
            simp [dEq, dEqv, hz, cInt, dMod, mAppend, dFdiv]
            rw [if_pos (by omega)]
            simp [dFdiv]) (rngD 0 60) [some (ilD ns), some (ilD ds), some (.int i), some (.int N), k, o, t] (fun d hd => by obtain ⟨i, _, rfl⟩ := rngD_mem hd; exact ⟨_, rfl⟩) ⟨ds, _, _, _, _, _, rfl, by omega, g, by rw [rngD_len]; omega⟩
      obtain ⟨ds2, c2, rest2, k2, o2, t2, rfl, g2, hl2⟩ := b
      refine ⟨[some (ilD ns), some (ilD ds2), c2, some (.int rest2), k2, o2, t2], .inl ?_, ds2, c2, some (.int rest2), k2, o2, t2, rfl, g2, by omega⟩
      have i3 := inR_60
      have eg := dGe_yes hb
      simp [number_eq, eg, i3]
      simpa using e
    · obtain ⟨o1, e1, _, _⟩ := dMod_ex (N * 48271 + 11) 2147483647 (by decide)
      obtain ⟨o2, e2, _, _⟩ := dMod_ex (o1 * 69621 + N) 2147483629 (by decide)
      obtain ⟨a, e3, h3, h3'⟩ := dMod_ex N 1000 (by decide)
      obtain ⟨b, e4, h4, h4'⟩ := dMod_ex o1 1000 (by decide)
      obtain ⟨c, e5, h5, h5'⟩ := dMod_ex o2 1000 (by decide)
      refine ⟨[some (ilD ns), some (ilD (ds ++ [a, b, c])), some (.int i), some (.int N), k, some (.int o1), some (.int o2)], .inl ?_, ds ++ [a, b, c], _, _, _, _, _, rfl, good_app g ?_, by simp; omega⟩
      rotate_left
      · intro x hx
        simp only [List.mem_cons, List.not_mem_nil, or_false] at hx
        rcases hx with rfl | rfl | rfl <;> exact ⟨by assumption, by assumption⟩
      have hq : ds.length + 3 ≤ sizeLine := by omega
      have h3 : 3 ≤ sizeLine := by omega
      have eg := dGe_no hb
      simp [number_eq, eg, i1, i2, cInt, dMul5_int, dMul, mExtend, h3, hq, e1, e2, e3, e4, e5]) (ns.map .int) [some (ilD ns), some (ilD []), none, none, none, none, none] 0 (fun d hd => by obtain ⟨i, _, rfl⟩ := List.mem_map.mp hd; exact ⟨i, rfl⟩) ⟨[], _, _, _, _, _, rfl, fun x hx => by simp at hx, by simp; omega⟩
  obtain ⟨r', e, ds, c, rest, k, o, t, rfl, g, hl⟩ := key
  refine ⟨ds, body_ok (r := [some (ilD ns), none, c, rest, k, o, t]) ?_, g⟩
  simp [g__law_draws]
  simp only [ilD] at e
  rw [show (PyData.list (List.map PyData.int [])) = PyData.list [] from rfl] at e
  rw [e]
  simp
end Lw
end

section
namespace Lw
open PySem PySem.Spec PyProof.Rows L2 DL TL
abbrev ltr (k : Int) (c : Nat) : Bool := decide (97 ≤ c) && decide ((c : Int) < 97 + k)
theorem dIn_sgn (c : Nat) (z : Str) : dIn (sgn c) (.str z) = some (.bool (decide (c ∈ tl z))) := by
  show some (PyData.bool (strIn ⟨#[c]⟩ z)) = _
  rw [strIn_sgn]
theorem dSl_str {z : Str} {lo hi : Option Int} (h : z.length ≤ sizeLine) : dSl (.str z) lo hi = some (.str (cutS z lo hi)) := by
  unfold dSl
  exact if_pos h
theorem mIndexS_of {a b : Str} {i : Nat} {rest : List Nat} (h : Builtin.Str.occurrences a b 0 a.length 1 = i :: rest) : mIndexS (.str a) [.str b] = some (.int (i : Nat)) := by
  unfold mIndexS
  simp only [h]
theorem ix_ab (c : Nat) (h : 97 ≤ c) (h' : c < 103) : mIndexS (.str "abcdef") [sgn c] = some (.int ((c - 97 : Nat) : Int)) := by
  have hc : c = 97 ∨ c = 98 ∨ c = 99 ∨ c = 100 ∨ c = 101 ∨ c = 102 := by omega
  rcases hc with rfl | rfl | rfl | rfl | rfl | rfl <;> exact mIndexS_of (rest := []) (by decide +kernel)
theorem ix_t1 (a b : D) : dIx (.tuple [a, b]) (.int 1) = some b := rfl
theorem ix_t0 (a b : D) : dIx (.tuple [a, b]) (.int 0) = some a := rfl
theorem ix_t (ds : List D) {i : Int} (h0 : 0 ≤ i) (h1 : i < ds.length) : dIx (.tuple ds) (.int i) = ds[i.toNat]? := atI_int h0 h1
theorem cl6 : cLen [.str "abcdef"] = some (.int 6) := by rfl
theorem dNe_int (i j : Int) : dNe (.int i) (.int j) = some (.bool (!decide (i = j))) := rfl
theorem cLen_t (ds : List D) : cLen [.tuple ds] = some (.int ds.length) := rfl
abbrev inE (n e : Int) : Bool := decide (0 ≤ e) && decide (e < n)
theorem cTuple_l (ds : List D) : cTuple [.list ds] = some (.tuple ds) := rfl
theorem all_sgnP (P : Nat → Prop) : ∀ ys : List D, (∀ y ∈ ys, ∃ c, y = sgn c ∧ P c) → ∃ cs : List Nat, ys = cs.map sgn ∧ ∀ c ∈ cs, P c
  | [], _ => ⟨[], rfl, fun _ h => by simp at h⟩
  | y :: ys, h => by
    obtain ⟨c, rfl, hc⟩ := h y (List.mem_cons_self ..)
    obtain ⟨cs, rfl, hs⟩ := all_sgnP P ys fun z hz => h z (List.mem_cons_of_mem _ hz)
    exact ⟨c :: cs, rfl, fun x hx => (List.mem_cons.mp hx).elim (fun e => e ▸ hc) (hs x)⟩

/-- the letters that a number allows: of any number -/
def lts (k : Int) (c : Nat) : Bool := decide (c ∈ tl (cutS "abcdef" none (some k)))
theorem sl_ab (k : Int) : dSl (.str "abcdef") none (some k) = some (.str (cutS "abcdef" none (some k))) := dSl_str (by rw [size_eq]; decide)
theorem has_step (k : Int) (c : Nat) (x : Option D) : b_has_letters_1 [some (.int k), x, some (sgn c)] = .ok (.bool (lts k c)) [some (.int k), x, some (sgn c)] := by
  have e := dIn_sgn c (cutS "abcdef" none (some k))
  have ez := sl_ab k
  have e : dIn (sgn c) (.str (cutS "abcdef" none (some k))) = some (.bool (lts k c)) := e
  generalize cutS "abcdef" none (some k) = z at *
  simp [ez, e]
theorem has_letters_eq (k : Int) (l : List Nat) (hl : l.length ≤ 1000) : F_has_letters [.int k, lst l] = .ok (.bool (l.all (lts k))) [none, none] := by
  have ec := compL_mapG (vs := [2]) (k := kName 2) (t := tYesR) (f := b_has_letters_1) sgn (fun c => .bool (lts k c)) [some (.int k), some (lst l), none] l [] (fun c _ => ⟨_, rfl, rfl, has_step k c _, rfl⟩) (by simp; rw [size_eq]; omega)
  have ea := cAll_mapG (lts k) l
  simp only [List.nil_append] at ec
  refine body_ok (r := [some (.int k), some (lst l), none]) ?_
  simp [g_has_letters, ec, ea]
def strOk (k : Int) (l : List Nat) : Bool := decide (l.length ≤ 60) && l.all (lts k)
theorem is_string_eq (k : Int) (l : List Nat) (hl : l.length ≤ 1000) : F_is_string [.int k, lst l] = .ok (.bool (strOk k l)) [none, none] := by
  have e2 := has_letters_eq k l hl
  have e3 := cLen_l l (by omega)
  refine body_ok (r := [some (.int k), some (lst l)]) ?_
  unfold strOk
  by_cases h6 : l.length ≤ 60
  · have h6' : (l.length : Int) ≤ 60 := by omega
    simp [g_is_string, e2, e3, dLe_int, h6, h6', tru]
  · have h6' : ¬ (l.length : Int) ≤ 60 := by omega
    simp [g_is_string, e2, e3, dLe_int, h6, h6', tru]
/-! machines -/
structure Ent where
  out : List Nat
  to : Int
structure Row where
  last : List Nat
  ents : List Ent
abbrev entD (e : Ent) : D := .tuple [lst e.out, .int e.to]
abbrev entsD (es : List Ent) : D := .tuple (es.map entD)
abbrev rowD (r : Row) : D := .tuple [lst r.last, entsD r.ents]
abbrev rowsD (rs : List Row) : D := .tuple (rs.map rowD)
abbrev macD (k : Int) (f : List Nat) (rs : List Row) : D := .tuple [.int k, lst f, rowsD rs]
def entOk (k n : Int) (e : Ent) : Bool := strOk k e.out && inE n e.to
def rowOk (k n : Int) (r : Row) : Bool := strOk k r.last && (decide ((r.ents.length : Int) = k) && r.ents.all (entOk k n))
def formed (most k : Int) (f : List Nat) (rs : List Row) : Bool := (decide (2 ≤ k) && decide (k ≤ 6)) && ((decide (1 ≤ (rs.length : Int)) && decide ((rs.length : Int) ≤ most)) && (strOk k f && rs.all (rowOk k rs.length)))
def RowFine (r : Row) : Prop := r.last.length ≤ 100 ∧ r.ents.length ≤ 100 ∧ ∀ e ∈ r.ents, e.out.length ≤ 100
theorem ent_step (k n : Int) (e : Ent) (he : e.out.length ≤ 100) (x y z : Option D) : b_is_row_1 [some (.int k), some (.int n), x, y, z, some (lst e.out), some (.int e.to)] = .ok (.bool (entOk k n e)) [some (.int k), some (.int n), x, y, z, some (lst e.out), some (.int e.to)] := by
  have e1 := is_string_eq k e.out (by omega)
  unfold entOk
  cases hs : strOk k e.out with
  | false =>
    rw [hs] at e1
    simp [e1, tru]
  | true =>
    rw [hs] at e1
    by_cases h : 0 ≤ e.to
    · simp [e1, tru, dLe_int, dLt_int, h]
    · simp [e1, tru, dLe_int, dLt_int, h]
theorem is_row_eq (k n : Int) (r : Row) (hr : RowFine r) : F_is_row [.int k, .int n, rowD r] = .ok (.bool (rowOk k n r)) [none, none, none] := by
  obtain ⟨last, ents⟩ := r
  obtain ⟨h1, h2, h3⟩ := hr
  simp only at h1 h2 h3
  have ec := compL_mapG (vs := [5, 6]) (k := kSeq 2 (kCons (kName 5) (kCons (kName 6) kNil))) (t := tYesR) (f := b_is_row_1) entD (fun e => .bool (entOk k n e)) [some (.int k), some (.int n), some (rowD ⟨last, ents⟩), some (lst last), some (entsD ents), none, none] ents [] (fun e he => ⟨[some (.int k), some (.int n), some (rowD ⟨last, ents⟩), some (lst last), some (entsD ents), some (lst e.out), some (.int e.to)], by simp, rfl, ent_step k n e (h3 e he) _ _ _, rfl⟩) (by simp; rw [size_eq]; omega)
  have ea := cAll_mapG (entOk k n) ents
  simp only [List.nil_append] at ec
  have el : cLen [entsD ents] = some (.int ents.length) := by
    have := cLen_t (ents.map entD)
    rwa [List.length_map] at this
  have e1 := is_string_eq k last (by omega)
  refine body_ok (r := [some (.int k), some (.int n), some (rowD ⟨last, ents⟩), some (lst last), some (entsD ents), none, none]) ?_
  unfold rowOk
  simp only
  cases hb : strOk k last with
  | false =>
    rw [hb] at e1
    simp [g_is_row, e1, tru]
  | true =>
    rw [hb] at e1
    by_cases hk : (ents.length : Int) = k
    · simp [g_is_row, e1, tru, el, dNe_int, hk, ec, ea]
    · simp [g_is_row, e1, tru, el, dNe_int, hk]
end Lw
end

section
namespace Lw
open PySem PySem.Spec PyProof.Rows L2 DL TL
def RowsFine (rs : List Row) : Prop := rs.length ≤ 100000 ∧ ∀ r ∈ rs, RowFine r
theorem len_rows (rs : List Row) : cLen [rowsD rs] = some (.int rs.length) := by
  have := cLen_t (rs.map rowD)
  rwa [List.length_map] at this
theorem is_formed_eq (most k : Int) (f : List Nat) (hf : f.length ≤ 100) (rs : List Row) (h : RowsFine rs) : F_is_formed [macD k f rs, .int most] = .ok (.bool (formed most k f rs)) [none, none] := by
  have el := len_rows rs
  have ec := compL_mapG (vs := [5]) (k := kName 5) (t := tYesR) (f := b_is_formed_1) rowD (fun r => .bool (rowOk k rs.length r)) [some (macD k f rs), some (.int most), some (.int k), some (lst f), some (rowsD rs), none] rs [] (fun r hr => ⟨_, rfl, rfl, by
    have e := is_row_eq k rs.length r (h.2 r hr)
    generalize rowD r = R at *
    simp [el, e], rfl⟩) (by simp; rw [size_eq]; have := h.1; omega)
  have ea := cAll_mapG (rowOk k rs.length) rs
  simp only [List.nil_append] at ec
  have es := is_string_eq k f (by omega)
  refine body_ok (r := [some (macD k f rs), some (.int most), some (.int k), some (lst f), some (rowsD rs), none]) ?_
  unfold formed
  by_cases h1 : 2 ≤ k
  · by_cases h2 : k ≤ 6
    · by_cases h3 : (1 : Int) ≤ rs.length
      · by_cases h4 : (rs.length : Int) ≤ most
        · simp only [decide_eq_true h1, decide_eq_true h2, decide_eq_true h3, decide_eq_true h4, Bool.true_and, Bool.and_self]
          cases hs : strOk k f with
          | true =>
            rw [hs] at es
            simp [g_is_formed, dLe_int, h1, h2, el, h3, h4, es, tru, ec, ea]
          | false =>
            rw [hs] at es
            simp [g_is_formed, dLe_int, h1, h2, el, h3, h4, es, tru]
        · simp only [decide_eq_true h1, decide_eq_true h2, decide_eq_true h3, decide_eq_false h4, Bool.true_and, Bool.and_self, Bool.and_false, Bool.false_and]
          simp [g_is_formed, dLe_int, h1, h2, el, h3, h4]
      · simp only [decide_eq_true h1, decide_eq_true h2, decide_eq_false h3, Bool.true_and, Bool.and_self, Bool.and_false, Bool.false_and]
        simp [g_is_formed, dLe_int, h1, h2, el, h3]
    · simp only [decide_eq_true h1, decide_eq_false h2, Bool.true_and, Bool.and_self, Bool.and_false, Bool.false_and]
      simp [g_is_formed, dLe_int, h1, h2]
  · simp only [decide_eq_false h1, Bool.true_and, Bool.and_self, Bool.and_false, Bool.false_and]
    simp [g_is_formed, dLe_int, h1]
theorem is_wide_eq (k : Int) (f : List Nat) (hf : f.length ≤ 100) (rs : List Row) (h : RowsFine rs) : F_is_wide [macD k f rs] = .ok (.bool (formed 2000 k f rs)) [none] := by
  refine body_ok (r := [some (macD k f rs)]) ?_
  have e := is_formed_eq 2000 k f hf rs h
  generalize macD k f rs = L at *
  simp [g_is_wide, e]
theorem check_w (k : Int) (f : List Nat) (hf : f.length ≤ 100) (rs : List Row) (h : RowsFine rs) : F_check_wide [macD k f rs] = if formed 2000 k f rs = true then .ok .none [none] else .exc "NotMachine" .none [none] := by
  have e := is_wide_eq k f hf rs h
  cases hg : formed 2000 k f rs with
  | true =>
    rw [hg] at e
    refine body_nx (r := [some (macD k f rs)]) ?_
    generalize macD k f rs = L at *
    simp [g_check_wide, e, tru]
  | false =>
    rw [hg] at e
    refine body_exc (r := [some (macD k f rs)]) ?_
    generalize macD k f rs = L at *
    simp [g_check_wide, e, tru]
theorem check_size_ok {k : Int} (h : 2 ≤ k) (h' : k ≤ 6) : F_check_size [.int k] = .ok .none [none] := by
  refine body_nx (r := [some (.int k)]) ?_
  simp [g_check_size, dLe_int, h, h', cl6]
theorem ix_k {k i : Int} (hk : 2 ≤ k) (hk' : k ≤ 6) (h0 : 0 ≤ i) (h1 : i < k) : ∃ c, dIx (.str "abcdef") (.int i) = some (sgn c) ∧ lts k c = true ∧ c < 128 := by
  have hkk : k = 2 ∨ k = 3 ∨ k = 4 ∨ k = 5 ∨ k = 6 := by omega
  have hi : i = 0 ∨ i = 1 ∨ i = 2 ∨ i = 3 ∨ i = 4 ∨ i = 5 := by omega
  rcases hkk with rfl | rfl | rfl | rfl | rfl <;> rcases hi with rfl | rfl | rfl | rfl | rfl | rfl <;> first
    | (exfalso; omega)
    | exact ⟨97, rfl, by decide +kernel, by omega⟩
    | exact ⟨98, rfl, by decide +kernel, by omega⟩
    | exact ⟨99, rfl, by decide +kernel, by omega⟩
    | exact ⟨100, rfl, by decide +kernel, by omega⟩
    | exact ⟨101, rfl, by decide +kernel, by omega⟩
    | exact ⟨102, rfl, by decide +kernel, by omega⟩
theorem text_eq (ds : List Int) (g : Good ds) (k m : Int) (hk : 2 ≤ k) (hk' : k ≤ 6) (h0 : 0 ≤ m) (h1 : m ≤ 50) : ∃ l es, F__law_text [ilD ds, .int k, .int m] = .ok (lst l) [some (ilD es), none, none] ∧ Good es ∧ (l.length : Int) ≤ m ∧ ∀ c ∈ l, lts k c = true ∧ c < 128 := by
  obtain ⟨d1, e1, q1, _, _, g1, _⟩ := next_eq ds g
  obtain ⟨n, q2, n0, n1⟩ := dMod_ex d1 (m + 1) (by omega)
  have hR := inR_s (j := n) n0 (by omega)
  obtain ⟨ys, r', q3, ⟨e2, rfl, g2⟩, hy, hlen⟩ := compL_inv (vs := [4]) (k := kName 4) (t := tYesR) (f := b__law_text_1) (fun r => ∃ e2, r = [some (ilD e2), some (.int k), some (.int m), some (.int n), none] ∧ Good e2) (fun d => ∃ i, d = .int i) (fun y => ∃ c, y = sgn c ∧ (lts k c = true ∧ c < 128)) (by
    rintro d r ⟨i, rfl⟩ ⟨e2, rfl, g⟩
    obtain ⟨d3, e3, p1, _, _, g3, _⟩ := next_eq e2 g
    obtain ⟨k3, p2, b0, b1⟩ := dMod_ex d3 k (by omega)
    obtain ⟨c, p3, hc⟩ := ix_k hk hk' b0 b1
    refine ⟨_, rfl, _, rfl, sgn c, [some (ilD e3), some (.int k), some (.int m), some (.int n), some (.int i)], ?_, ⟨c, rfl, hc⟩, e3, rfl, g3⟩
    simp [p1, cInt, p2, p3]) (rngD 0 n.toNat) [some (ilD e1), some (.int k), some (.int m), some (.int n), none] [] (fun d hd => by obtain ⟨i, _, rfl⟩ := rngD_mem hd; exact ⟨_, rfl⟩) ⟨e1, rfl, g1⟩ (fun y h => by simp at h) (by rw [rngD_len, size_eq]; simp; omega)
  obtain ⟨cs, rfl, hc⟩ := all_sgnP _ ys hy
  have hcl : cs.length = n.toNat := by
    rw [rngD_len, List.length_map] at hlen
    simpa using hlen
  have hj := mJoin_sgn cs (by omega)
  have hty : tyD "str" (.str "") = true := rfl
  refine ⟨cs, e2, body_ok (r := [some (ilD e2), some (.int k), some (.int m), some (.int n), none]) ?_, g2, by omega, hc⟩
  simp [g__law_text, q1, cInt, q2, hR, q3, hj, hty]
theorem out_eq (ds : List Int) (g : Good ds) (k i : Int) (hk : 2 ≤ k) (hk' : k ≤ 6) (h0 : 0 ≤ i) (h1 : i < k) : ∃ l es, F__law_out [ilD ds, .int k, .int i] = .ok (lst l) [some (ilD es), none, none] ∧ Good es ∧ l.length ≤ 5 ∧ ∀ c ∈ l, lts k c = true := by
  obtain ⟨d1, e1, q1, _, _, g1, _⟩ := next_eq ds g
  obtain ⟨n, q2, n0, n1⟩ := dMod_ex d1 6 (by decide)
  by_cases h3 : n < 3
  · obtain ⟨c, q3, hc, _⟩ := ix_k hk hk' h0 h1
    refine ⟨[c], e1, body_ok (r := [some (ilD e1), some (.int k), some (.int i), some (.int n)]) ?_, g1, by simp, fun x hx => by rw [List.mem_singleton.mp hx]; exact hc⟩
    have hs : sgn c = lst [c] := rfl
    rw [hs] at q3
    simp [g__law_out, q1, cInt, q2, dLt_int, h3, q3]
  · by_cases h4 : n = 3
    · refine ⟨[], e1, body_ok (r := [some (ilD e1), some (.int k), some (.int i), some (.int n)]) ?_, g1, by simp, fun x hx => by simp at hx⟩
      have hs : (PyData.str "") = lst [] := rfl
      subst h4
      simp [g__law_out, q1, cInt, q2, dLt_int, dEq_int]
      rfl
    · obtain ⟨l, es, q3, g2, hl, hc⟩ := text_eq e1 g1 k (n - 3) hk hk' (by omega) (by omega)
      refine ⟨l, es, body_ok (r := [some (ilD es), some (.int k), some (.int i), some (.int n)]) ?_, g2, by omega, fun c h => (hc c h).1⟩
      have ds : dSub (.int n) (.int 3) = some (.int (n - 3)) := rfl
      simp [g__law_out, q1, cInt, q2, dLt_int, dEq_int, h3, h4, ds, q3]
end Lw
end

section
namespace Lw
open PySem PySem.Spec PyProof.Rows L2 DL TL
def RowK (k n : Int) (r : Row) : Prop := RowFine r ∧ rowOk k n r = true
def JI (k m n : Int) (rs st last : Option D) (t : Nat) (r : Rho) : Prop := ∃ (es : List Int) (ents : List Ent) (a b : Option D), r = [some (ilD es), some (.int k), some (.int m), some (.int n), rs, st, some (.list (ents.map entD)), a, b, last] ∧ Good es ∧ ((ents.length : Int) + t = k) ∧ ∀ e ∈ ents, e.out.length ≤ 60 ∧ entOk k n e = true
theorem ent_turn {k m n : Int} (hk : 2 ≤ k) (hk' : k ≤ 6) (hn : 1 ≤ n) {rs st last : Option D} (t : Nat) (i : Int) (i0 : 0 ≤ i) (i1 : i < k) (r : Rho) (h : JI k m n rs st last (t + 1) r) : ∃ r1, kName 7 (.int i) r = some r1 ∧ ∃ r2, (b__law_machine_1 r1 = .nx r2 ∨ b__law_machine_1 r1 = .ct r2) ∧ JI k m n rs st last t r2 := by
  obtain ⟨es, ents, a, b, rfl, g, hl, ho⟩ := h
  obtain ⟨l, e1, q1, g1, hl1, hc1⟩ := out_eq es g k i hk hk' i0 i1
  obtain ⟨d2, e2, q2, _, _, g2, _⟩ := next_eq e1 g1
  obtain ⟨j, q3, j0, j1⟩ := dMod_ex d2 n (by omega)
  have h2 : 2 ≤ sizeLine := by rw [size_eq]; omega
  have hla : (ents.map entD).length < sizeLine := by rw [List.length_map, size_eq]; omega
  refine ⟨_, rfl, [some (ilD e2), some (.int k), some (.int m), some (.int n), rs, st, some (.list ((ents ++ [Ent.mk l j]).map entD)), some (.int i), some (lst l), last], .inl ?_, e2, ents ++ [Ent.mk l j], _, _, rfl, g2, by simp; omega, ?_⟩
  · have hm : (ents ++ [Ent.mk l j]).map entD = ents.map entD ++ [.tuple [lst l, .int j]] := by rw [List.map_append] <;> rfl
    rw [hm]
    generalize ents.map entD = EN at *
    simp [q1, q2, cInt, q3, h2, mAppend, hla]
  · intro e he
    rcases List.mem_append.mp he with he | he
    · exact ho e he
    · rw [List.mem_singleton.mp he]
      refine ⟨by show l.length ≤ 60; omega, ?_⟩
      unfold entOk strOk
      simp only [Bool.and_eq_true, decide_eq_true_eq, List.all_eq_true]
      exact ⟨⟨by show l.length ≤ 60; omega, hc1⟩, j0, j1⟩
def JM (k m n : Int) (t : Nat) (r : Rho) : Prop := ∃ (es : List Int) (rs : List Row) (a b c d e : Option D), r = [some (ilD es), some (.int k), some (.int m), some (.int n), some (.list (rs.map rowD)), a, b, c, d, e] ∧ Good es ∧ ((rs.length : Int) + t = n) ∧ ∀ r ∈ rs, RowK k n r
theorem row_turn {k m n : Int} (hk : 2 ≤ k) (hk' : k ≤ 6) (hn : 1 ≤ n) (hn' : n ≤ 100) (t : Nat) (i : Int) (r : Rho) (h : JM k m n (t + 1) r) : ∃ r1, kName 5 (.int i) r = some r1 ∧ ∃ r2, (b__law_machine_2 r1 = .nx r2 ∨ b__law_machine_2 r1 = .ct r2) ∧ JM k m n t r2 := by
  obtain ⟨es, rs, a, b, c, d, e, rfl, g, hl, hr⟩ := h
  have hR := inR_s (j := k) (by omega) (by omega)
  obtain ⟨r', q1, e1, ents, a1, b1, rfl, g1, hle, ho⟩ := forE_invN (k := kName 7) (s := b__law_machine_1) (JI k m n (some (.list (rs.map rowD))) (some (.int i)) e) (fun d => ∃ i, d = .int i ∧ 0 ≤ i ∧ i < k) (fun t d r ⟨i, hd, h0, h1⟩ h => by subst hd; exact ent_turn hk hk' hn t i h0 h1 r h) (rngD 0 k.toNat) [some (ilD es), some (.int k), some (.int m), some (.int n), some (.list (rs.map rowD)), some (.int i), some (.list []), c, d, e] 0 (fun d hd => by obtain ⟨i, hi, rfl⟩ := rngD_mem hd; exact ⟨_, rfl, by omega, by omega⟩) ⟨es, [], _, _, rfl, g, by rw [rngD_len]; simp; omega, fun e h => by simp at h⟩
  obtain ⟨d2, e2, q2, _, _, g2, _⟩ := next_eq e1 g1
  obtain ⟨j, q3, _, _⟩ := dMod_ex d2 3 (by decide)
  have h2 : 2 ≤ sizeLine := by rw [size_eq]; omega
  have h0s : 0 ≤ sizeLine := Nat.zero_le _
  have hla : (rs.map rowD).length < sizeLine := by rw [List.length_map, size_eq]; omega
  have ct := cTuple_l (ents.map entD)
  have fin : ∀ l : List Nat, l.length ≤ 60 → (∀ c ∈ l, lts k c = true) → ∀ e3 : List Int, Good e3 → JM k m n t [some (ilD e3), some (.int k), some (.int m), some (.int n), some (.list ((rs ++ [Row.mk l ents]).map rowD)), some (.int i), some (.list (ents.map entD)), a1, b1, some (lst l)] := fun l hl1 hc1 e3 g3 => by
    refine ⟨e3, rs ++ [Row.mk l ents], _, _, _, _, _, rfl, g3, by simp; omega, fun r h => ?_⟩
    rcases List.mem_append.mp h with h | h
    · exact hr r h
    · rw [List.mem_singleton.mp h]
      refine ⟨⟨by show l.length ≤ 100; omega, by show ents.length ≤ 100; omega, fun e he => by have := (ho e he).1; omega⟩, ?_⟩
      unfold rowOk strOk
      simp only [Bool.and_eq_true, decide_eq_true_eq, List.all_eq_true]
      exact ⟨⟨hl1, hc1⟩, by show (ents.length : Int) = k; omega, fun e he => (ho e he).2⟩
  have hm : ∀ l : List Nat, (rs ++ [Row.mk l ents]).map rowD = rs.map rowD ++ [.tuple [lst l, .tuple (ents.map entD)]] := fun l => by rw [List.map_append] <;> rfl
  by_cases hj : j = 0
  · obtain ⟨l, e3, q4, g3, hl1, hc1⟩ := text_eq e2 g2 k 2 hk hk' (by decide) (by decide)
    refine ⟨_, rfl, _, .inl ?_, fin l (by omega) (fun c h => (hc1 c h).1) e3 g3⟩
    rw [hm]
    generalize rs.map rowD = RS at *
    generalize ents.map entD = EN at *
    simp [h0s, hR, q1, q2, cInt, q3, dEq_int, hj, q4, ct, h2, mAppend, hla]
  · refine ⟨_, rfl, _, .inl ?_, fin [] (by simp) (fun c h => by simp at h) e2 g2⟩
    rw [hm]
    generalize rs.map rowD = RS at *
    generalize ents.map entD = EN at *
    have hs : (PyData.str "") = lst [] := rfl
    simp [h0s, hR, q1, q2, cInt, q3, dEq_int, hj, ct, h2, mAppend, hla]
    first | rfl | exact ⟨rfl, rfl⟩ | exact ⟨rfl, hs⟩
theorem machine_eq (ds : List Int) (g : Good ds) (k : Int) (hk : 2 ≤ k) (hk' : k ≤ 6) : ∃ f rs es, F__law_machine [ilD ds, .int k, .int 4] = .ok (macD k f rs) [some (ilD es), none, none] ∧ Good es ∧ f.length ≤ 60 ∧ rs.length ≤ 4 ∧ RowsFine rs ∧ formed 2000 k f rs = true := by
  obtain ⟨d1, e1, q1, _, _, g1, _⟩ := next_eq ds g
  obtain ⟨k1, q2, b0, b1⟩ := dMod_ex d1 4 (by decide)
  have hR := inR_s (j := 1 + k1) (by omega) (by omega)
  obtain ⟨r', q3, e2, rs, a, b, c, d, e, rfl, g2, hl, hr⟩ := forE_invN (k := kName 5) (s := b__law_machine_2) (JM k 4 (1 + k1)) (fun d => ∃ i, d = .int i) (fun t d r ⟨i, hi⟩ h => by subst hi; exact row_turn hk hk' (by omega) (by omega) t i r h) (rngD 0 (1 + k1).toNat) [some (ilD e1), some (.int k), some (.int 4), some (.int (1 + k1)), some (.list []), none, none, none, none, none] 0 (fun d hd => by obtain ⟨i, _, rfl⟩ := rngD_mem hd; exact ⟨_, rfl⟩) ⟨e1, [], _, _, _, _, _, rfl, g1, by rw [rngD_len]; simp; omega, fun r h => by simp at h⟩
  obtain ⟨d3, e3, q4, _, _, g3, _⟩ := next_eq e2 g2
  obtain ⟨m, q5, m0, m1⟩ := dMod_ex d3 2 (by decide)
  obtain ⟨f, e4, q6, g4, hf, hcf⟩ := text_eq e3 g3 k m hk hk' m0 (by omega)
  have hn : (rs.length : Int) = 1 + k1 := by omega
  refine ⟨f, rs, e4, body_ok (r := [some (ilD e4), some (.int k), some (.int 4), some (.int (1 + k1)), some (.list (rs.map rowD)), a, b, c, d, e]) ?_, g4, by omega, by omega, ⟨by omega, fun r h => (hr r h).1⟩, ?_⟩
  rotate_left
  · unfold formed strOk
    simp only [Bool.and_eq_true, decide_eq_true_eq, List.all_eq_true]
    exact ⟨⟨hk, hk'⟩, ⟨by omega, by omega⟩, ⟨by omega, fun c h => (hcf c h).1⟩, fun r h => by rw [hn]; exact (hr r h).2⟩
  have h0s : 0 ≤ sizeLine := Nat.zero_le _
  have h3 : 3 ≤ sizeLine := by rw [size_eq]; omega
  have ct := cTuple_l (rs.map rowD)
  have hL : macD k f rs = .tuple [.int k, lst f, .tuple (rs.map rowD)] := rfl
  rw [hL]
  generalize rs.map rowD = RS at *
  simp [g__law_machine, q1, cInt, q2, h0s, hR, q3, q4, q5, q6, ct, h3]
end Lw
end

section
namespace Lw
open PySem PySem.Spec PyProof.Rows L2 DL TL
structure Fine (k : Int) (f : List Nat) (rs : List Row) : Prop where
  k2 : 2 ≤ k
  k6 : k ≤ 6
  n1 : 1 ≤ (rs.length : Int)
  st : strOk k f = true
  all : ∀ r ∈ rs, rowOk k rs.length r = true
theorem fine_of {most k : Int} {f : List Nat} {rs : List Row} (h : formed most k f rs = true) : Fine k f rs := by
  unfold formed at h
  simp only [Bool.and_eq_true, decide_eq_true_eq, List.all_eq_true] at h
  exact ⟨h.1.1, h.1.2, h.2.1.1, h.2.2.1, h.2.2.2⟩
theorem lts_abc {k : Int} {c : Nat} (h : lts k c = true) : 97 ≤ c ∧ c < 103 := by
  have h : c ∈ tl (cutS "abcdef" none (some k)) := of_decide_eq_true h
  have h2 : c ∈ tl ("abcdef" : Str) := List.mem_of_mem_drop (List.mem_of_mem_take h)
  have : ∀ c ∈ tl ("abcdef" : Str), 97 ≤ c ∧ c < 103 := by decide +kernel
  exact this c h2
theorem lts_lt {k : Int} (hk : 2 ≤ k) (hk' : k ≤ 6) {c : Nat} (h : lts k c = true) : 97 ≤ c ∧ (c : Int) < 97 + k := by
  have h1 := lts_abc h
  refine ⟨h1.1, ?_⟩
  have hkk : k = 2 ∨ k = 3 ∨ k = 4 ∨ k = 5 ∨ k = 6 := by omega
  have hc : c = 97 ∨ c = 98 ∨ c = 99 ∨ c = 100 ∨ c = 101 ∨ c = 102 := by omega
  rcases hkk with rfl | rfl | rfl | rfl | rfl <;> rcases hc with rfl | rfl | rfl | rfl | rfl | rfl <;> first | omega | (exfalso; revert h; decide +kernel)
theorem row_at {k : Int} {f : List Nat} {rs : List Row} (F : Fine k f rs) {s : Int} (h0 : 0 ≤ s) (h1 : s < rs.length) : ∃ r, dIx (rowsD rs) (.int s) = some (rowD r) ∧ rowOk k rs.length r = true := by
  have hl : s.toNat < rs.length := by omega
  refine ⟨rs[s.toNat], ?_, F.all _ (List.getElem_mem hl)⟩
  rw [ix_t _ h0 (by rw [List.length_map]; exact h1), List.getElem?_map, List.getElem?_eq_getElem hl] <;> rfl
theorem ent_at {k n : Int} {r : Row} (h : rowOk k n r = true) {j : Int} (h0 : 0 ≤ j) (h1 : j < k) : ∃ e, dIx (entsD r.ents) (.int j) = some (entD e) ∧ strOk k e.out = true ∧ 0 ≤ e.to ∧ e.to < n := by
  unfold rowOk at h
  simp only [Bool.and_eq_true, decide_eq_true_eq, List.all_eq_true] at h
  have hl : j.toNat < r.ents.length := by omega
  have he := h.2.2 _ (List.getElem_mem hl)
  unfold entOk at he
  simp only [Bool.and_eq_true, decide_eq_true_eq] at he
  refine ⟨r.ents[j.toNat], ?_, he.1, he.2.1, he.2.2⟩
  rw [ix_t _ h0 (by rw [List.length_map]; omega), List.getElem?_map, List.getElem?_eq_getElem hl] <;> rfl
theorem ix_3 (a b c : D) : dIx (.tuple [a, b, c]) (.int 2) = some c := rfl
theorem ix_31 (a b c : D) : dIx (.tuple [a, b, c]) (.int 1) = some b := rfl
theorem ix_30 (a b c : D) : dIx (.tuple [a, b, c]) (.int 0) = some a := rfl
theorem str_len {k : Int} {l : List Nat} (h : strOk k l = true) : l.length ≤ 60 ∧ ∀ c ∈ l, lts k c = true := by
  unfold strOk at h
  simpa only [Bool.and_eq_true, decide_eq_true_eq, List.all_eq_true] using h
/-- one letter, in both walks -/
theorem both_step {k : Int} {f : List Nat} {rs : List Row} (F : Fine k f rs) (c : Nat) (hc : lts k c = true) (s : Int) (h0 : 0 ≤ s) (h1 : s < rs.length) (w : Option D) : ∃ (out : List Nat) (s' : Int), strOk k out = true ∧ 0 ≤ s' ∧ s' < rs.length ∧
    (∀ (ps : List D) (o : Option D), ps.length < 1000 → b_walked_1 [some (macD k f rs), some (.int s), w, some (.list ps), some (sgn c), o] = .nx [some (macD k f rs), some (.int s'), w, some (.list (ps ++ [lst out])), some (sgn c), some (lst out)]) ∧
    (∀ (t : List Nat) (o : Option D), t.length ≤ 100000 → b__law_walked_1 [some (macD k f rs), some (.int s), w, some (lst t), some (sgn c), o] = .nx [some (macD k f rs), some (.int s'), w, some (lst (t ++ out)), some (sgn c), some (lst out)]) := by
  obtain ⟨c0, c1⟩ := lts_lt F.k2 F.k6 hc
  have hk := F.k6
  obtain ⟨r, e1, hr⟩ := row_at F h0 h1
  obtain ⟨e, e2, ho, t0, t1⟩ := ent_at hr (j := ((c - 97 : Nat) : Int)) (by omega) (by omega)
  have e3 := ix_ab c c0 (by omega)
  have e4 : dIx (macD k f rs) (.int 2) = some (rowsD rs) := ix_3 _ _ _
  have e5 : dIx (rowD r) (.int 1) = some (entsD r.ents) := ix_t1 _ _
  have ty : tyD "str" (.str "abcdef") = true := rfl
  have hE : entD e = .tuple [lst e.out, .int e.to] := rfl
  rw [hE] at e2
  have ol := (str_len ho).1
  refine ⟨e.out, e.to, ho, t0, t1, fun ps o hp => ?_, fun t o ht => ?_⟩
  · have hps : ps.length < sizeLine := by rw [size_eq]; omega
    generalize macD k f rs = L at *
    generalize rowsD rs = RS at *
    generalize rowD r = RD at *
    generalize entsD r.ents = ED at *
    generalize ((c - 97 : Nat) : Int) = j at *
    simp [e4, e1, e5, ty, e3, e2, mAppend, hps]
  · have ad : dAdd4 (lst t) (lst e.out) = some (lst (t ++ e.out)) := by
      rw [dAdd4_str, dAdd_s, app_l]
      show t.length + e.out.length ≤ _
      rw [size_eq]; omega
    generalize macD k f rs = L at *
    generalize rowsD rs = RS at *
    generalize rowD r = RD at *
    generalize entsD r.ents = ED at *
    generalize ((c - 97 : Nat) : Int) = j at *
    simp [e4, e1, e5, ty, e3, e2, ad]
theorem both_loop {k : Int} {f : List Nat} {rs : List Row} (F : Fine k f rs) (w : Option D) : ∀ (l : List Nat) (s : Int), (∀ c ∈ l, lts k c = true) → 0 ≤ s → s < rs.length → l.length ≤ 100 → ∃ (outs : List (List Nat)) (s' : Int), (∀ o ∈ outs, strOk k o = true) ∧ outs.length = l.length ∧ 0 ≤ s' ∧ s' < rs.length ∧
    (∀ (ps : List D) (a o : Option D), ps.length + l.length < 1000 → ∃ a' o', forE (kName 4) b_walked_1 (l.map sgn) [some (macD k f rs), some (.int s), w, some (.list ps), a, o] = .nx [some (macD k f rs), some (.int s'), w, some (.list (ps ++ outs.map lst)), a', o']) ∧
    (∀ (t : List Nat) (a o : Option D), t.length + 60 * l.length ≤ 100000 → ∃ a' o', forE (kName 4) b__law_walked_1 (l.map sgn) [some (macD k f rs), some (.int s), w, some (lst t), a, o] = .nx [some (macD k f rs), some (.int s'), w, some (lst (t ++ outs.flatten)), a', o'])
  | [], s, _, h0, h1, _ => ⟨[], s, by simp, rfl, h0, h1, fun ps a o _ => ⟨a, o, by simp⟩, fun t a o _ => ⟨a, o, by simp⟩⟩
  | c :: l, s, hl, h0, h1, hn => by
    rw [List.length_cons] at hn
    obtain ⟨out, s1, ho, g0, g1, p1, p2⟩ := both_step F c (hl c (List.mem_cons_self ..)) s h0 h1 w
    obtain ⟨outs, s2, hos, hlen, q0, q1, r1, r2⟩ := both_loop F w l s1 (fun x hx => hl x (List.mem_cons_of_mem _ hx)) g0 g1 (by omega)
    have ol := (str_len ho).1
    refine ⟨out :: outs, s2, fun o h => (List.mem_cons.mp h).elim (fun e => e ▸ ho) (hos o), by simp [hlen], q0, q1, fun ps a o hp => ?_, fun t a o ht => ?_⟩
    · rw [List.length_cons] at hp
      obtain ⟨a', o', e⟩ := r1 (ps ++ [lst out]) (some (sgn c)) (some (lst out)) (by simp; omega)
      refine ⟨a', o', ?_⟩
      rw [List.map_cons, forE_nx rfl (p1 ps o (by omega)), e]
      simp
    · rw [List.length_cons] at ht
      obtain ⟨a', o', e⟩ := r2 (t ++ out) (some (sgn c)) (some (lst out)) (by simp; omega)
      refine ⟨a', o', ?_⟩
      rw [List.map_cons, forE_nx rfl (p2 t o (by omega)), e]
      simp
theorem texts_l : ∀ ls : List (List Nat), texts (ls.map lst) = some (ls.map fun l => (⟨l.toArray⟩ : Str))
  | [] => rfl
  | l :: ls => by
    show (texts (ls.map lst)).map (_ :: ·) = _
    rw [texts_l ls] <;> rfl
theorem sum_len (ls : List (List Nat)) (h : ∀ l ∈ ls, l.length ≤ 60) : ((ls.map fun l => (⟨l.toArray⟩ : Str)).map (·.length)).sum ≤ 60 * ls.length := by
  induction ls with
  | nil => simp
  | cons l ls ih =>
    have h1 := h l (List.mem_cons_self ..)
    have h2 := ih fun x hx => h x (List.mem_cons_of_mem _ hx)
    rw [List.map_cons, List.map_cons, List.sum_cons, List.length_cons]
    have : (⟨l.toArray⟩ : Str).length = l.length := rfl
    omega
theorem mJoin_l (ls : List (List Nat)) (h : ∀ l ∈ ls, l.length ≤ 60) (hn : ls.length ≤ 1000) : mJoin (.str "") [.list (ls.map lst)] = some (lst ls.flatten) := by
  show ((texts (ls.map lst)).bind fun ys => if (ys.map (·.length)).sum + ys.length * ("" : Str).length ≤ 16777216 then some (PyData.str (Txt.join "" ys)) else none) = _
  rw [texts_l]
  show (if _ then _ else _) = _
  have e : Txt.join "" (ls.map fun l => (⟨l.toArray⟩ : Str)) = ⟨ls.flatten.toArray⟩ := by
    refine ext_tl ?_
    rw [join_eq, tl_join]
    show joinL [] _ = ls.flatten
    rw [joinL_flat, List.map_map]
    have : (tl ∘ fun l : List Nat => (⟨l.toArray⟩ : Str)) = id := rfl
    rw [this, List.map_id]
  rw [if_pos, e]
  have s := sum_len ls h
  have e0 : ("" : Str).length = 0 := rfl
  rw [e0]
  omega
end Lw
end

section
namespace Lw
open PySem PySem.Spec PyProof.Rows L2 DL TL
theorem flat_len (ls : List (List Nat)) (h : ∀ l ∈ ls, l.length ≤ 60) : ls.flatten.length ≤ 60 * ls.length := by
  induction ls with
  | nil => simp
  | cons l ls ih =>
    have h1 := h l (List.mem_cons_self ..)
    have h2 := ih fun x hx => h x (List.mem_cons_of_mem _ hx)
    rw [List.flatten_cons, List.length_append, List.length_cons]
    omega
/-- what the walk of a word tells -/
structure Wk (k : Int) (f : List Nat) (rs : List Row) (l flat : List Nat) (s : Int) (last : List Nat) : Prop where
  w1 : F_walked [macD k f rs, .int 0, lst l] = .ok (.tuple [lst flat, .int s]) [none, none, none]
  w2 : F__law_walked [macD k f rs, .int 0, lst l] = .ok (.list [lst flat, .int s]) [none, none, none]
  fl : flat.length ≤ 6000
  fc : ∀ c ∈ flat, lts k c = true
  s0 : 0 ≤ s
  s1 : s < rs.length
  rw : ∃ r, dIx (rowsD rs) (.int s) = some (rowD r) ∧ dIx (rowD r) (.int 0) = some (lst last)
  la : strOk k last = true
theorem walk_eq {k : Int} {f : List Nat} {rs : List Row} (F : Fine k f rs) (l : List Nat) (hl : l.length ≤ 100) (hc : ∀ c ∈ l, lts k c = true) : ∃ flat s last, Wk k f rs l flat s last := by
  obtain ⟨outs, s, ho, hn, s0, s1, r1, r2⟩ := both_loop F (some (lst l)) l 0 hc (by omega) (by have := F.n1; omega) hl
  obtain ⟨a, o, e1⟩ := r1 [] none none (by simp; omega)
  obtain ⟨a', o', e2⟩ := r2 [] none none (by simp; omega)
  obtain ⟨r, x1, hr⟩ := row_at F s0 s1
  have hl60 : ∀ o ∈ outs, o.length ≤ 60 := fun o h => (str_len (ho o h)).1
  have hj := mJoin_l outs hl60 (by omega)
  have hty : tyD "str" (.str "") = true := rfl
  have h0s : 0 ≤ sizeLine := Nat.zero_le _
  have h2 : 2 ≤ sizeLine := by rw [size_eq]; omega
  simp only [List.nil_append] at e1 e2
  have hls : strOk k r.last = true := by
    unfold rowOk at hr
    simp only [Bool.and_eq_true] at hr
    exact hr.1
  refine ⟨outs.flatten, s, r.last, body_ok (r := [some (macD k f rs), some (.int s), some (lst l), some (.list (outs.map lst)), a, o]) ?_, body_ok (r := [some (macD k f rs), some (.int s), some (lst l), some (lst outs.flatten), a', o']) ?_, by have := flat_len outs hl60; omega, fun c h => ?_, s0, s1, ⟨r, x1, ix_t0 _ _⟩, hls⟩
  · generalize macD k f rs = L at *
    generalize outs.map lst = OL at *
    simp [g_walked, h0s, e1, hj, hty, h2]
  · generalize macD k f rs = L at *
    have e2' : forE (kName 4) b__law_walked_1 (l.map sgn) [some L, some (.int 0), some (lst l), some (.str ""), none, none] = .nx [some L, some (.int s), some (lst l), some (lst outs.flatten), a', o'] := e2
    generalize outs.flatten = FL at *
    simp [g__law_walked, e2', h2]
  · obtain ⟨o, h1, h2⟩ := List.mem_flatten.mp h
    exact (str_len (ho o h1)).2 c h2
theorem add_l {a b : List Nat} (h : a.length + b.length ≤ 100000) : dAdd4 (lst a) (lst b) = some (lst (a ++ b)) := by
  rw [dAdd4_str, dAdd_s, app_l]
  show a.length + b.length ≤ _
  rw [size_eq]; omega
theorem changed_eq {k : Int} {f : List Nat} {rs : List Row} {l flat last : List Nat} {s : Int} (hf : f.length ≤ 100) (w : Wk k f rs l flat s last) : F_changed [macD k f rs, lst l] = .ok (lst (f ++ flat ++ last)) [none, none] ∧ F__law_form [macD k f rs, lst l] = .ok (lst (f ++ flat ++ last)) [none, none] := by
  obtain ⟨r, x1, x2⟩ := w.rw
  have w1 := w.w1
  have w2 := w.w2
  have e2 : dIx (macD k f rs) (.int 2) = some (rowsD rs) := ix_3 _ _ _
  have e1 : dIx (macD k f rs) (.int 1) = some (lst f) := ix_31 _ _ _
  have a1 := add_l (a := f) (b := flat) (by have := w.fl; omega)
  have a2 := add_l (a := f ++ flat) (b := last) (by have := w.fl; have := (str_len w.la).1; simp; omega)
  generalize f ++ flat ++ last = R3 at *
  generalize f ++ flat = R2 at *
  generalize macD k f rs = L at *
  generalize rowsD rs = RS at *
  generalize rowD r = RD at *
  refine ⟨body_ok (r := [some L, some (lst l), some (lst flat), some (.int s)]) ?_, body_ok (r := [some L, some (lst l), some (lst flat), some (.int s)]) ?_⟩
  · simp [g_changed, w1, e1, e2, a1, a2, x1, x2]
  · simp [g__law_form, w2, e1, e2, a1, a2, x1, x2]
/-! words -/
theorem is_word_eq {k : Int} (h : 2 ≤ k) (h' : k ≤ 6) (l : List Nat) (hl : l.length ≤ 1000) : F_is_word [.int k, lst l] = .ok (.bool (strOk k l)) [none, none] := by
  have e1 := check_size_ok h h'
  have e2 := has_letters_eq k l hl
  have e3 := cLen_l l (by omega)
  refine body_ok (r := [some (.int k), some (lst l)]) ?_
  unfold strOk
  by_cases h6 : l.length ≤ 60
  · have h6' : (l.length : Int) ≤ 60 := by omega
    simp [g_is_word, e1, e2, e3, dLe_int, h6, h6', tru]
  · have h6' : ¬ (l.length : Int) ≤ 60 := by omega
    simp [g_is_word, e1, e2, e3, dLe_int, h6, h6', tru]
theorem check_word_eq {k : Int} (h : 2 ≤ k) (h' : k ≤ 6) (l : List Nat) (hl : l.length ≤ 1000) : F_check_word [.int k, lst l] = if strOk k l = true then .ok .none [none, none] else .exc "NotWord" .none [none, none] := by
  have e := is_word_eq h h' l hl
  generalize strOk k l = w at *
  cases w with
  | true =>
    refine body_nx (r := [some (.int k), some (lst l)]) ?_
    simp [g_check_word, e, tru]
  | false =>
    refine body_exc (r := [some (.int k), some (lst l)]) ?_
    simp [g_check_word, e, tru]
theorem call_bad {k : Int} {f : List Nat} {rs : List Row} (hf : f.length ≤ 100) (hr : RowsFine rs) (hb : ¬ formed 2000 k f rs = true) (w : D) : F_check_call [macD k f rs, w] = .exc "NotMachine" .none [none, none] := by
  have e := check_w k f hf rs hr
  rw [if_neg hb] at e
  refine body_exc (r := [some (macD k f rs), some w]) ?_
  generalize macD k f rs = L at *
  simp [g_check_call, e]
theorem call_word {k : Int} {f : List Nat} {rs : List Row} (hf : f.length ≤ 100) (hr : RowsFine rs) (hb : formed 2000 k f rs = true) (l : List Nat) (hl : l.length ≤ 1000) : F_check_call [macD k f rs, lst l] = if strOk k l = true then .ok .none [none, none] else .exc "NotWord" .none [none, none] := by
  have F := fine_of hb
  have e := check_w k f hf rs hr
  rw [if_pos hb] at e
  have e2 := check_word_eq F.k2 F.k6 l hl
  have e1 : dIx (macD k f rs) (.int 0) = some (.int k) := ix_30 _ _ _
  generalize macD k f rs = L at *
  cases hw : strOk k l with
  | true =>
    rw [hw, if_pos rfl] at e2
    exact body_nx (r := [some L, some (lst l)]) (by simp [g_check_call, e, e1, e2])
  | false =>
    rw [hw, if_neg Bool.false_ne_true] at e2
    exact body_exc (r := [some L, some (lst l)]) (by simp [g_check_call, e, e1, e2])
theorem kind_m : F__law_kind "NotMachine" = some (.str "!machine") := by rfl
theorem kind_w : F__law_kind "NotWord" = some (.str "!word") := by rfl
theorem kind_n : F__law_kind "BadNumber" = some (.str "!number") := by rfl
theorem told_exc (way : Int) (hw : way = 0 ∨ way = 1 ∨ way = 2) (L w : D) (c : Str) (o : Str) (hc : F_check_call [L, w] = .exc c .none [none, none]) (ht : tab_ShiftError.lookup c = some true) (hk : F__law_kind c = some (.str o)) : F__law_told [.int way, L, w] = .ok (.str o) [none, none, none] := by
  have e1 : F_form [L, w] = .exc c .none [none, none] := body_exc (r := [some L, some w]) (by simp [g_form, hc])
  have e2 : F_written [L, w] = .exc c .none [none, none] := body_exc (r := [some L, some w]) (by simp [g_written, hc])
  have e3 : F_state_behind [L, w] = .exc c .none [none, none] := body_exc (r := [some L, some w]) (by simp [g_state_behind, hc])
  refine body_ok (r := [some (.int way), some L, some w, none]) ?_
  rcases hw with rfl | rfl | rfl <;> simp [g__law_told, dEq_int, e1, e2, e3, ht, excV, hk]
theorem told_ok {k : Int} {f : List Nat} {rs : List Row} {l flat last : List Nat} {s : Int} (hf : f.length ≤ 100) (hr : RowsFine rs) (hb : formed 2000 k f rs = true) (hl : l.length ≤ 1000) (hw : strOk k l = true) (w : Wk k f rs l flat s last) :
    F__law_told [.int 0, macD k f rs, lst l] = .ok (lst (f ++ flat ++ last)) [none, none, none] ∧ F__law_told [.int 1, macD k f rs, lst l] = .ok (lst (f ++ flat)) [none, none, none] ∧ F__law_told [.int 2, macD k f rs, lst l] = .ok (.int s) [none, none, none] := by
  have c := call_word hf hr hb l hl
  rw [if_pos hw] at c
  have w0 := (changed_eq hf w).1
  have w1 := w.w1
  have e1 : dIx (macD k f rs) (.int 1) = some (lst f) := ix_31 _ _ _
  have a1 := add_l (a := f) (b := flat) (by have := w.fl; omega)
  have x0 := ix_t0 (lst flat) (.int s)
  have x1 := ix_t1 (lst flat) (.int s)
  generalize f ++ flat ++ last = R3 at *
  generalize f ++ flat = R2 at *
  generalize macD k f rs = L at *
  have f1 : F_form [L, lst l] = .ok (lst R3) [none, none] := body_ok (r := [some L, some (lst l)]) (by simp [g_form, c, w0])
  have f2 : F_written [L, lst l] = .ok (lst R2) [none, none] := body_ok (r := [some L, some (lst l)]) (by simp [g_written, c, e1, w1, x0, a1])
  have f3 : F_state_behind [L, lst l] = .ok (.int s) [none, none] := body_ok (r := [some L, some (lst l)]) (by simp [g_state_behind, c, w1, x1])
  refine ⟨body_ok (r := [some (.int 0), some L, some (lst l), none]) ?_, body_ok (r := [some (.int 1), some L, some (lst l), none]) ?_, body_ok (r := [some (.int 2), some L, some (lst l), none]) ?_⟩
  · simp [g__law_told, dEq_int, f1]
  · simp [g__law_told, dEq_int, f2]
  · simp [g__law_told, dEq_int, f3]
end Lw
end

section
namespace Lw
open PySem PySem.Spec PyProof.Rows L2 DL TL
theorem m60 : dMul5 (.str "a") (.int 60) = some (lst (List.replicate 60 97)) := by
  rw [dMul5_str, dMul_str (by decide +kernel)]
  have e : strMul "a" 60 = ⟨(List.replicate 60 97).toArray⟩ := by decide +kernel
  rw [e]
theorem m61 : dMul5 (.str "a") (.int 61) = some (lst (List.replicate 61 97)) := by
  rw [dMul5_str, dMul_str (by decide +kernel)]
  have e : strMul "a" 61 = ⟨(List.replicate 61 97).toArray⟩ := by decide +kernel
  rw [e]
theorem ix_l (ds : List D) {i : Int} (h0 : 0 ≤ i) (h1 : i < ds.length) : dIx (.tuple ds) (.int i) = ds[i.toNat]? := atI_int h0 h1
theorem rng_nat (n : Nat) : rngD 0 n = (List.range n).map fun i : Nat => .int (i : Int) := by
  unfold rngD
  refine List.map_congr_left fun i _ => ?_
  rw [Int.zero_add]

def EL (n : Nat) : List D := (List.range n).map fun i => .tuple [sgn (97 + i), .int 0]
def calmE (n : Nat) : List Ent := (List.range n).map fun i => ⟨[97 + i], 0⟩
abbrev calmD (k : Int) : D := macD k [] [⟨[], calmE k.toNat⟩]
theorem calm_eq (k : Int) : calmD k = .tuple [.int k, .str "", .tuple [.tuple [.str "", .tuple (EL k.toNat)]]] := by
  have e : (calmE k.toNat).map entD = EL k.toNat := by
    unfold calmE EL
    rw [List.map_map] <;> rfl
  show PyData.tuple [.int k, lst [], .tuple [.tuple [lst [], .tuple ((calmE k.toNat).map entD)]]] = _
  rw [e] <;> rfl
theorem cut_k {k : Int} (hk : 2 ≤ k) (hk' : k ≤ 6) : tl (cutS "abcdef" none (some k)) = (List.range k.toNat).map (97 + ·) := by
  have hkk : k = 2 ∨ k = 3 ∨ k = 4 ∨ k = 5 ∨ k = 6 := by omega
  rcases hkk with rfl | rfl | rfl | rfl | rfl <;> decide +kernel
theorem still_eq {k : Int} (hk : 2 ≤ k) (hk' : k ≤ 6) : F_still [.int k] = .ok (calmD k) [none] := by
  have e1 := check_size_ok hk hk'
  have ez := sl_ab k
  have ec := compL_mapG (vs := [1]) (k := kName 1) (t := tYesR) (f := b_still_1) sgn (fun c => .tuple [sgn c, .int 0]) [some (.int k), none] (tl (cutS "abcdef" none (some k))) [] (fun c _ => ⟨_, rfl, rfl, by
    have h2 : 2 ≤ sizeLine := by rw [size_eq]; omega
    simp [h2], rfl⟩) (by rw [cut_k hk hk', size_eq]; simp; omega)
  have hE : (tl (cutS "abcdef" none (some k))).map (fun c => PyData.tuple [sgn c, .int 0]) = EL k.toNat := by
    rw [cut_k hk hk', List.map_map] <;> rfl
  rw [hE] at ec
  simp only [List.nil_append] at ec
  have h1 : 1 ≤ sizeLine := by rw [size_eq]; omega
  have h2 : 2 ≤ sizeLine := by rw [size_eq]; omega
  have h3 : 3 ≤ sizeLine := by rw [size_eq]; omega
  have ct := cTuple_l (EL k.toNat)
  rw [calm_eq]
  refine body_ok (r := [some (.int k), none]) ?_
  generalize EL k.toNat = E at *
  generalize cutS "abcdef" none (some k) = z at *
  simp [g_still, e1, ez, ec, ct, h1, h2, h3]
theorem still_bad {k : Int} (h : k < 2 ∨ 6 < k) : F__law_still [.int k] = .ok (.str "!number") [none] := by
  have hc : F_check_size [.int k] = .exc "BadNumber" .none [none] := by
    refine body_exc (r := [some (.int k)]) ?_
    rcases h with h | h
    · have h' : ¬ 2 ≤ k := by omega
      simp [g_check_size, dLe_int, h', cl6]
    · have h1 : 2 ≤ k := by omega
      have h' : ¬ k ≤ 6 := by omega
      simp [g_check_size, dLe_int, h1, h', cl6]
  have hs : F_still [.int k] = .exc "BadNumber" .none [none] := body_exc (r := [some (.int k), none]) (by simp [g_still, hc])
  have l1 : tab_ShiftError.lookup ("BadNumber" : Str) = some true := by decide +kernel
  have kn := kind_n
  refine body_ok (r := [some (.int k), none]) ?_
  simp [g__law_still, hs, l1, excV, kn]
theorem still_ok {k : Int} (hk : 2 ≤ k) (hk' : k ≤ 6) : F__law_still [.int k] = .ok (calmD k) [none] := by
  have e := still_eq hk hk'
  refine body_ok (r := [some (.int k), none]) ?_
  generalize calmD k = C at *
  simp [g__law_still, e]
theorem calm_formed {k : Int} (hk : 2 ≤ k) (hk' : k ≤ 6) : formed 2000 k [] [⟨[], calmE k.toNat⟩] = true := by
  have hkk : k = 2 ∨ k = 3 ∨ k = 4 ∨ k = 5 ∨ k = 6 := by omega
  rcases hkk with rfl | rfl | rfl | rfl | rfl <;> decide +kernel
theorem calm_fine {k : Int} (hk : 2 ≤ k) (hk' : k ≤ 6) : RowsFine [⟨[], calmE k.toNat⟩] := by
  refine ⟨by simp, fun r h => ?_⟩
  rw [List.mem_singleton.mp h]
  refine ⟨by simp, by simp [calmE]; omega, fun e he => ?_⟩
  obtain ⟨i, _, rfl⟩ := List.mem_map.mp he
  simp
theorem calm_step {k : Int} (hk : 2 ≤ k) (hk' : k ≤ 6) (c : Nat) (hc : lts k c = true) (w o : Option D) (ps : List D) (hp : ps.length < 1000) : b_walked_1 [some (calmD k), some (.int 0), w, some (.list ps), some (sgn c), o] = .nx [some (calmD k), some (.int 0), w, some (.list (ps ++ [sgn c])), some (sgn c), some (sgn c)] := by
  obtain ⟨c0, c1⟩ := lts_lt hk hk' hc
  have e3 := ix_ab c c0 (by omega)
  have e2 : dIx (.tuple (EL k.toNat)) (.int ((c - 97 : Nat) : Int)) = some (.tuple [sgn c, .int 0]) := by
    have hl : c - 97 < k.toNat := by omega
    rw [ix_t _ (by omega) (by unfold EL; rw [List.length_map, List.length_range]; omega)]
    unfold EL
    rw [List.getElem?_map, show (((c - 97 : Nat) : Int)).toNat = c - 97 by omega, List.getElem?_range hl]
    show some (PyData.tuple [sgn (97 + (c - 97)), .int 0]) = _
    rw [show 97 + (c - 97) = c by omega]
  have ty : tyD "str" (.str "abcdef") = true := rfl
  have hps : ps.length < sizeLine := by rw [size_eq]; omega
  have x2 := ix_3 (.int k) (.str "") (.tuple [.tuple [.str "", .tuple (EL k.toNat)]])
  have x0 : dIx (.tuple [.tuple [.str "", .tuple (EL k.toNat)]]) (.int 0) = some (.tuple [.str "", .tuple (EL k.toNat)]) := rfl
  have x1 := ix_t1 (.str "") (.tuple (EL k.toNat))
  rw [calm_eq]
  generalize EL k.toNat = E at *
  generalize ((c - 97 : Nat) : Int) = j at *
  simp [x2, x0, x1, ty, e3, e2, mAppend, hps]
theorem calm_loop {k : Int} (hk : 2 ≤ k) (hk' : k ≤ 6) (w : Option D) : ∀ (l : List Nat) (ps : List D) (a o : Option D), (∀ c ∈ l, lts k c = true) → ps.length + l.length < 1000 → ∃ a' o', forE (kName 4) b_walked_1 (l.map sgn) [some (calmD k), some (.int 0), w, some (.list ps), a, o] = .nx [some (calmD k), some (.int 0), w, some (.list (ps ++ l.map sgn)), a', o']
  | [], ps, a, o, _, _ => ⟨a, o, by simp⟩
  | c :: l, ps, a, o, hl, hn => by
    rw [List.length_cons] at hn
    obtain ⟨a', o', e⟩ := calm_loop hk hk' w l (ps ++ [sgn c]) (some (sgn c)) (some (sgn c)) (fun x hx => hl x (List.mem_cons_of_mem _ hx)) (by simp; omega)
    refine ⟨a', o', ?_⟩
    rw [List.map_cons, forE_nx rfl (calm_step hk hk' c (hl c (List.mem_cons_self ..)) w o ps (by omega)), e]
    simp
theorem calm_form {k : Int} (hk : 2 ≤ k) (hk' : k ≤ 6) (l : List Nat) (hl : l.length ≤ 60) (hc : ∀ c ∈ l, lts k c = true) : F_form [calmD k, lst l] = .ok (lst l) [none, none] := by
  obtain ⟨a, o, e⟩ := calm_loop hk hk' (some (lst l)) l [] none none hc (by simp; omega)
  have hj := mJoin_sgn l (by omega)
  have hty : tyD "str" (.str "") = true := rfl
  have h0s : 0 ≤ sizeLine := Nat.zero_le _
  have h2 : 2 ≤ sizeLine := by rw [size_eq]; omega
  have hw : strOk k l = true := by
    unfold strOk
    simp only [Bool.and_eq_true, decide_eq_true_eq, List.all_eq_true]
    exact ⟨hl, hc⟩
  have cc := call_word (k := k) (f := []) (rs := [⟨[], calmE k.toNat⟩]) (by simp) (calm_fine hk hk') (calm_formed hk hk') l (by omega)
  rw [if_pos hw] at cc
  have cc : F_check_call [calmD k, lst l] = .ok .none [none, none] := cc
  simp only [List.nil_append] at e
  have w1 : F_walked [calmD k, .int 0, lst l] = .ok (.tuple [lst l, .int 0]) [none, none, none] := by
    refine body_ok (r := [some (calmD k), some (.int 0), some (lst l), some (.list (l.map sgn)), a, o]) ?_
    generalize calmD k = L at *
    simp [g_walked, h0s, e, hj, hty, h2]
  have x2 : dIx (calmD k) (.int 2) = some (.tuple [.tuple [.str "", .tuple (EL k.toNat)]]) := by rw [calm_eq]; exact ix_3 _ _ _
  have x1 : dIx (calmD k) (.int 1) = some (.str "") := by rw [calm_eq]; exact ix_31 _ _ _
  have x0 : dIx (.tuple [.tuple [.str "", .tuple (EL k.toNat)]]) (.int 0) = some (.tuple [.str "", .tuple (EL k.toNat)]) := rfl
  have x00 := ix_t0 (.str "") (.tuple (EL k.toNat))
  have a1 : dAdd4 (.str "") (lst l) = some (lst l) := by
    have := add_l (a := []) (b := l) (by simp; omega)
    rwa [List.nil_append] at this
  have a2 : dAdd4 (lst l) (.str "") = some (lst l) := by
    have := add_l (a := l) (b := []) (by simp; omega)
    rwa [List.append_nil] at this
  generalize calmD k = L at *
  generalize EL k.toNat = E at *
  have ch : F_changed [L, lst l] = .ok (lst l) [none, none] := body_ok (r := [some L, some (lst l), some (lst l), some (.int 0)]) (by simp [g_changed, w1, x2, x1, x0, x00, a1, a2])
  exact body_ok (r := [some L, some (lst l)]) (by simp [g_form, cc, ch])
theorem calm_ne {k : Int} (hk : 2 ≤ k) (hk' : k ≤ 6) : dNe (calmD k) (.tuple [.int k, .str "", .tuple [.tuple [.str "", .tuple (EL k.toNat)]]]) = some (.bool false) := by
  rw [calm_eq]
  have hkk : k = 2 ∨ k = 3 ∨ k = 4 ∨ k = 5 ∨ k = 6 := by omega
  rcases hkk with rfl | rfl | rfl | rfl | rfl <;> kernel_rfl
theorem lst_repr (l : List Nat) (hl : l.length ≤ 100000) (hc : ∀ c ∈ l, c < 128) : ∃ z, cRepr [lst l] = some (.str z) := by
  refine ⟨_, cRepr_ok ?_⟩
  have h4 : (lst l).shown.length ≤ sizeLine := PyData.shown_fits (B := 13) (by decide) (by decide) (by
    show l.all (fun c => decide (c < 16 ^ 8)) = true
    refine List.all_eq_true.mpr fun c h => decide_eq_true ?_
    have := hc c h
    have e : (16 : Nat) ^ 8 = 4294967296 := by decide
    omega) (by
    show l.length ≤ 2 ^ 20
    have e : (2 : Nat) ^ 20 = 1048576 := by decide
    omega)
  show (true && !false && decide (0 ≤ 60) && decide ((lst l).shown.length ≤ sizeLine)) = true
  rw [decide_eq_true h4] <;> rfl
theorem int_repr {s : Int} (h0 : 0 ≤ s) (h1 : s < 4) : ∃ z, cRepr [.int s] = some (.str z) := by
  have : s = 0 ∨ s = 1 ∨ s = 2 ∨ s = 3 := by omega
  rcases this with rfl | rfl | rfl | rfl <;> exact ⟨_, cRepr_ok (by decide +kernel)⟩
end Lw
end

section
namespace Lw
open PySem PySem.Spec PyProof.Rows L2 DL TL
theorem law_true (ns : List Int) (h : ns.length ≤ 63) : ∃ ro, F_law [ilD ns] = .ok (.bool true) ro := by
  obtain ⟨ds, p1, g⟩ := draws_eq ns h
  have p2 : mReverse (ds.map PyData.int) [] = some ((ds.reverse).map .int, .none) := by
    show some _ = _
    rw [List.map_reverse]
  obtain ⟨d1, e1, p3, _, _, g1, _⟩ := next_eq ds.reverse (good_rev g)
  obtain ⟨k1, p4, a0, a1⟩ := dMod_ex d1 8 (by decide)
  obtain ⟨k, p5, hk, hk'⟩ : ∃ k, dIx (.list [.int 2, .int 2, .int 2, .int 3, .int 3, .int 4, .int 5, .int 6]) (.int k1) = some (.int k) ∧ 2 ≤ k ∧ k ≤ 6 := by
    have : k1 = 0 ∨ k1 = 1 ∨ k1 = 2 ∨ k1 = 3 ∨ k1 = 4 ∨ k1 = 5 ∨ k1 = 6 ∨ k1 = 7 := by omega
    rcases this with rfl | rfl | rfl | rfl | rfl | rfl | rfl | rfl <;> exact ⟨_, rfl, by omega, by omega⟩
  obtain ⟨f, rs, e2, p6, g2, hf, hl4, hrf, hfo⟩ := machine_eq e1 g1 k hk hk'
  have F := fine_of hfo
  have hf1 : f.length ≤ 100 := by omega
  obtain ⟨l, e3, p7, g3, hl, hlc⟩ := text_eq e2 g2 k 8 hk hk' (by decide) (by decide)
  have hlk : ∀ c ∈ l, lts k c = true := fun c h => (hlc c h).1
  have hlw : strOk k l = true := by
    unfold strOk
    simp only [Bool.and_eq_true, decide_eq_true_eq, List.all_eq_true]
    exact ⟨by omega, hlk⟩
  obtain ⟨flat, s, last, w⟩ := walk_eq F l (by omega) hlk
  obtain ⟨w0, w0'⟩ := changed_eq hf1 w
  obtain ⟨t0, t1, t2⟩ := told_ok hf1 hrf hfo (by omega) hlw w
  have wl := w.w2
  have ex1 : dIx (macD k f rs) (.int 1) = some (lst f) := ix_31 _ _ _
  have ex2 : dIx (macD k f rs) (.int 2) = some (rowsD rs) := ix_3 _ _ _
  have ad1 := add_l (a := f) (b := flat) (by have := w.fl; omega)
  have fc : ∀ c ∈ f, lts k c = true := (str_len F.st).2
  have lc := (str_len w.la).2
  have c128 : ∀ {c : Nat}, lts k c = true → c < 128 := fun h => by have := lts_abc h; omega
  obtain ⟨z0, r0⟩ := lst_repr (f ++ flat ++ last) (by have := w.fl; have := (str_len w.la).1; simp; omega) (fun c h => by
    rcases List.mem_append.mp h with h | h
    · rcases List.mem_append.mp h with h | h
      · exact c128 (fc c h)
      · exact c128 (w.fc c h)
    · exact c128 (lc c h))
  obtain ⟨z1, r1⟩ := lst_repr (f ++ flat) (by have := w.fl; simp; omega) (fun c h => by
    rcases List.mem_append.mp h with h | h
    · exact c128 (fc c h)
    · exact c128 (w.fc c h))
  obtain ⟨z2, r2⟩ := int_repr w.s0 (by have := w.s1; omega)
  have n0 := dNe_same z0
  have n1 := dNe_same z1
  have n2 := dNe_same z2
  -- a bad machine
  obtain ⟨d4, e4, p8, _, _, g4, _⟩ := next_eq e3 g3
  obtain ⟨i4, p9, b0, b1⟩ := dMod_ex d4 3 (by decide)
  obtain ⟨kb, fb, rb, p10, hb1, hb2, hb3⟩ : ∃ kb fb rb, dIx (.list [.tuple [.int 7, lst f, rowsD rs], .tuple [.int k, .str "z", rowsD rs], .tuple [.int k, .str "", .tuple []]]) (.int i4) = some (macD kb fb rb) ∧ fb.length ≤ 100 ∧ RowsFine rb ∧ ¬ formed 2000 kb fb rb = true := by
    have : i4 = 0 ∨ i4 = 1 ∨ i4 = 2 := by omega
    rcases this with rfl | rfl | rfl
    · exact ⟨7, f, rs, rfl, hf1, hrf, fun h => by have := (fine_of h).k6; omega⟩
    · exact ⟨k, [122], rs, rfl, by simp, hrf, fun h => by
        have := lts_abc ((str_len (fine_of h).st).2 122 (by simp))
        omega⟩
    · exact ⟨k, [], [], rfl, by simp, ⟨by simp, fun r h => by simp at h⟩, fun h => by have := (fine_of h).n1; simp at this⟩
  -- a strange word
  obtain ⟨d5, e5, p11, _, _, g5, _⟩ := next_eq e4 g4
  obtain ⟨i5, p12, c0, c1⟩ := dMod_ex d5 3 (by decide)
  obtain ⟨g, p13, hg⟩ : ∃ c, dIx (.str "abcdefg") (.int k) = some (sgn c) ∧ (c : Int) = 97 + k := by
    have hkk : k = 2 ∨ k = 3 ∨ k = 4 ∨ k = 5 ∨ k = 6 := by omega
    rcases hkk with rfl | rfl | rfl | rfl | rfl
    · exact ⟨99, rfl, by omega⟩
    · exact ⟨100, rfl, by omega⟩
    · exact ⟨101, rfl, by omega⟩
    · exact ⟨102, rfl, by omega⟩
    · exact ⟨103, rfl, by omega⟩
  have ad2 : dAdd4 (lst l) (sgn g) = some (lst (l ++ [g])) := add_l (b := [g]) (by simp; omega)
  have ad3 : dAdd4 (.str " ") (lst l) = some (lst (32 :: l)) := add_l (a := [32]) (by simp; omega)
  obtain ⟨A60, hA60, n60, c60⟩ : ∃ A : List Nat, dMul5 (.str "a") (.int 60) = some (lst A) ∧ A.length = 60 ∧ ∀ c ∈ A, c = 97 := ⟨_, m60, by simp, fun c h => (List.mem_replicate.mp h).2⟩
  obtain ⟨A61, hA61, n61⟩ : ∃ A : List Nat, dMul5 (.str "a") (.int 61) = some (lst A) ∧ A.length = 61 := ⟨_, m61, by simp⟩
  obtain ⟨st, p14, hst, hsw⟩ : ∃ st : List Nat, dIx (.list [lst (l ++ [g]), lst A61, lst (32 :: l)]) (.int i5) = some (lst st) ∧ st.length ≤ 1000 ∧ ¬ strOk k st = true := by
    have : i5 = 0 ∨ i5 = 1 ∨ i5 = 2 := by omega
    rcases this with rfl | rfl | rfl
    · exact ⟨l ++ [g], rfl, by simp; omega, fun h => by
        have := lts_lt hk hk' ((str_len h).2 g (by simp))
        omega⟩
    · exact ⟨A61, rfl, by omega, fun h => by have := (str_len h).1; omega⟩
    · exact ⟨32 :: l, rfl, by simp; omega, fun h => by
        have := lts_abc ((str_len h).2 32 (by simp))
        omega⟩
  have tm : ∀ way, way = 0 ∨ way = 1 ∨ way = 2 → F__law_told [.int way, macD kb fb rb, lst st] = .ok (.str "!machine") [none, none, none] := fun way hw => told_exc way hw _ _ "NotMachine" "!machine" (call_bad hb1 hb2 hb3 _) (by decide +kernel) kind_m
  have tw : ∀ way, way = 0 ∨ way = 1 ∨ way = 2 → F__law_told [.int way, macD k f rs, lst st] = .ok (.str "!word") [none, none, none] := fun way hw => told_exc way hw _ _ "NotWord" "!word" (by
    have c := call_word hf1 hrf hfo st hst
    rwa [if_neg hsw] at c) (by decide +kernel) kind_w
  have tm0 := tm 0 (by omega)
  have tm1 := tm 1 (by omega)
  have tm2 := tm 2 (by omega)
  have tw0 := tw 0 (by omega)
  have tw1 := tw 1 (by omega)
  have tw2 := tw 2 (by omega)
  have nm := dNe_same "!machine"
  have nw := dNe_same "!word"
  have l97 : lts k 97 = true := by
    have hkk : k = 2 ∨ k = 3 ∨ k = 4 ∨ k = 5 ∨ k = 6 := by omega
    rcases hkk with rfl | rfl | rfl | rfl | rfl <;> decide +kernel
  have hAk : ∀ c ∈ A60, lts k c = true := fun c h => by rw [c60 c h]; exact l97
  have hAw : strOk k A60 = true := by
    unfold strOk
    simp only [Bool.and_eq_true, decide_eq_true_eq, List.all_eq_true]
    exact ⟨by omega, hAk⟩
  obtain ⟨flA, sA, laA, wA⟩ := walk_eq F A60 (by omega) hAk
  obtain ⟨u0, u1, _⟩ := told_ok hf1 hrf hfo (by omega) hAw wA
  have is0 : instT "str" (lst (f ++ flA ++ laA)) = some true := rfl
  have is1 : instT "str" (lst (f ++ flA)) = some true := rfl
  have x0 : dIx (.list [lst (f ++ flat ++ last), lst (f ++ flat), .int s]) (.int 0) = some (lst (f ++ flat ++ last)) := rfl
  have x1 : dIx (.list [lst (f ++ flat ++ last), lst (f ++ flat), .int s]) (.int 1) = some (lst (f ++ flat)) := rfl
  have x2 : dIx (.list [lst (f ++ flat ++ last), lst (f ++ flat), .int s]) (.int 2) = some (.int s) := rfl
  -- still
  obtain ⟨d6, e6, p15, _, _, g6, _⟩ := next_eq e5 g5
  obtain ⟨sz, p16, s0, s1⟩ := dMod_ex d6 9 (by decide)
  have h0s : 0 ≤ sizeLine := Nat.zero_le _
  have h1 : 1 ≤ sizeLine := by rw [size_eq]; omega
  have h2 : 2 ≤ sizeLine := by rw [size_eq]; omega
  have h3 : 3 ≤ sizeLine := by rw [size_eq]; omega
  have h8 : 8 ≤ sizeLine := by rw [size_eq]; omega
  have hR3 : DL.inR 3 = true := by decide
  have hL : ∀ b : Option D, ∃ b', forE (kName 10) b_law_1 (rngD 0 3) [some (ilD ns), some (ilD e5), some (.int k), some (macD k f rs), some (lst l), some (lst flat), some (.int s), some (.list [lst (f ++ flat ++ last), lst (f ++ flat), .int s]), some (macD kb fb rb), some (lst st), b, none, none, none, none] = .nx [some (ilD ns), some (ilD e5), some (.int k), some (macD k f rs), some (lst l), some (lst flat), some (.int s), some (.list [lst (f ++ flat ++ last), lst (f ++ flat), .int s]), some (macD kb fb rb), some (lst st), b', none, none, none, none] := fun b => by
    have hrg : rngD 0 3 = [.int 0, .int 1, .int 2] := rfl
    refine ⟨some (.int 2), ?_⟩
    rw [hrg]
    generalize hR2 : f ++ flat ++ last = R3 at *
    generalize hR1 : f ++ flat = R2 at *
    generalize f ++ flA ++ laA = RA3 at *
    generalize f ++ flA = RA2 at *
    generalize macD k f rs = L at *
    generalize macD kb fb rb = LB at *
    rw [forE_nx rfl (r2 := [some (ilD ns), some (ilD e5), some (.int k), some L, some (lst l), some (lst flat), some (.int s), some (.list [lst R3, lst R2, .int s]), some LB, some (lst st), some (.int 0), none, none, none, none]) (by simp [t0, x0, r0, n0, tm0, tw0, nm, nw, dLt_int, hA60, u0, is0, tru]),
      forE_nx rfl (r2 := [some (ilD ns), some (ilD e5), some (.int k), some L, some (lst l), some (lst flat), some (.int s), some (.list [lst R3, lst R2, .int s]), some LB, some (lst st), some (.int 1), none, none, none, none]) (by simp [t1, x1, r1, n1, tm1, tw1, nm, nw, dLt_int, hA60, u1, is1, tru]),
      forE_nx rfl (r2 := [some (ilD ns), some (ilD e5), some (.int k), some L, some (lst l), some (lst flat), some (.int s), some (.list [lst R3, lst R2, .int s]), some LB, some (lst st), some (.int 2), none, none, none, none]) (by simp [t2, x2, r2, n2, tm2, tw2, nm, nw, dLt_int])]
    rfl
  obtain ⟨b', hL⟩ := hL none
  simp only [ilD, List.map_reverse] at p2 p3
  by_cases hsz : sz < 2 ∨ 6 < sz
  · have sb := still_bad hsz
    have dq : dEq (.str "!number") (.str "!number") = some (.bool true) := by rfl
    refine ⟨_, body_ok (r := [some (ilD ns), some (ilD e6), some (.int k), some (macD k f rs), some (lst l), some (lst flat), some (.int s), some (.list [lst (f ++ flat ++ last), lst (f ++ flat), .int s]), some (macD kb fb rb), some (lst st), b', some (.int sz), none, none, none]) ?_⟩
    generalize hR2 : f ++ flat ++ last = R3 at *
    generalize hR1 : f ++ flat = R2 at *
    generalize macD k f rs = L at *
    generalize macD kb fb rb = LB at *
    generalize rowsD rs = RS at *
    rcases hsz with hsz | hsz
    · simp [g_law, p1, p2, p3, cInt, p4, h8, p5, p6, p7, wl, w0', ex1, ex2, ad1, h3, p8, p9, h0s, p10, p11, p12, p13, ad2, hA61, ad3, p14, hR3, hL, p15, p16, dLt_int, hsz, sb, dq]
    · have hsz' : ¬ sz < 2 := by omega
      simp [g_law, p1, p2, p3, cInt, p4, h8, p5, p6, p7, wl, w0', ex1, ex2, ad1, h3, p8, p9, h0s, p10, p11, p12, p13, ad2, hA61, ad3, p14, hR3, hL, p15, p16, dLt_int, (show ∀ i j : Int, dGt (.int i) (.int j) = some (.bool (decide (j < i))) from fun _ _ => rfl), hsz, hsz', sb, dq]
  · have hz1 : ¬ sz < 2 := by omega
    have hz2 : ¬ 6 < sz := by omega
    have so := still_ok (k := sz) (by omega) (by omega)
    have cn := calm_ne (k := sz) (by omega) (by omega)
    have hRz := inR_s (j := sz) (by omega) (by omega)
    have ec : compL [14] (kName 14) tYesR b_law_2 (rngD 0 sz.toNat) [some (ilD ns), some (ilD e6), some (.int k), some (macD k f rs), some (lst l), some (lst flat), some (.int s), some (.list [lst (f ++ flat ++ last), lst (f ++ flat), .int s]), some (macD kb fb rb), some (lst st), b', some (.int sz), some (calmD sz), none, none] [] = .ok (EL sz.toNat) [some (ilD ns), some (ilD e6), some (.int k), some (macD k f rs), some (lst l), some (lst flat), some (.int s), some (.list [lst (f ++ flat ++ last), lst (f ++ flat), .int s]), some (macD kb fb rb), some (lst st), b', some (.int sz), some (calmD sz), none, none] := by
      rw [rng_nat]
      have := compL_mapG (vs := [14]) (k := kName 14) (t := tYesR) (f := b_law_2) (fun i : Nat => PyData.int (i : Int)) (fun i => .tuple [sgn (97 + i), .int 0]) [some (ilD ns), some (ilD e6), some (.int k), some (macD k f rs), some (lst l), some (lst flat), some (.int s), some (.list [lst (f ++ flat ++ last), lst (f ++ flat), .int s]), some (macD kb fb rb), some (lst st), b', some (.int sz), some (calmD sz), none, none] (List.range sz.toNat) [] (fun i hi => ⟨_, rfl, rfl, by
        have hi := List.mem_range.mp hi
        have hx : dIx (.str "abcdef") (.int (i : Int)) = some (sgn (97 + i)) := by
          have : i = 0 ∨ i = 1 ∨ i = 2 ∨ i = 3 ∨ i = 4 ∨ i = 5 := by omega
          rcases this with rfl | rfl | rfl | rfl | rfl | rfl <;> rfl
        generalize (i : Int) = j at *
        simp [hx, h2], rfl⟩) (by simp; rw [size_eq]; omega)
      simpa [EL] using this
    obtain ⟨o, e7, p17, g7, ho, hoc⟩ := text_eq e6 g6 sz 9 (by omega) (by omega) (by decide) (by decide)
    have fo := calm_form (k := sz) (by omega) (by omega) o (by omega) (fun c h => (hoc c h).1)
    have dq : dEq (lst o) (lst o) = some (.bool true) := by
      have := dEq_s o ⟨o.toArray⟩
      rw [this]
      simp
    have ct := cTuple_l (EL sz.toNat)
    refine ⟨_, body_ok (r := [some (ilD ns), some (ilD e7), some (.int k), some (macD k f rs), some (lst l), some (lst flat), some (.int s), some (.list [lst (f ++ flat ++ last), lst (f ++ flat), .int s]), some (macD kb fb rb), some (lst st), b', some (.int sz), some (calmD sz), some (lst o), none]) ?_⟩
    generalize hR2 : f ++ flat ++ last = R3 at *
    generalize hR1 : f ++ flat = R2 at *
    generalize macD k f rs = L at *
    generalize macD kb fb rb = LB at *
    generalize rowsD rs = RS at *
    generalize calmD sz = C at *
    generalize EL sz.toNat = E at *
    simp [g_law, p1, p2, p3, cInt, p4, h8, p5, p6, p7, wl, w0', ex1, ex2, ad1, h3, p8, p9, h0s, p10, p11, p12, p13, ad2, hA61, ad3, p14, hR3, hL, p15, p16, dLt_int, (show ∀ i j : Int, dGt (.int i) (.int j) = some (.bool (decide (j < i))) from fun _ _ => rfl), hz1, hz2, so, hRz, ec, ct, h1, h2, cn, p17, fo, dq]
end Lw
end

section
set_option maxHeartbeats 2000000
namespace Lw
open PySem PySem.Spec PyProof.Rows L2 DL
def top (i : Nat) : Stmt := PySem.Challenge.pw_soundturns_k21_forms_of_words.main.body.getD i (.Pass ⟨0, 0, 0, 0⟩)
abbrev st_check_size : Stmt := top 10
abbrev N_check_size : List Str := ["k"]
theorem sc_check_size : FnScope N_check_size ["k"] (defScope st_check_size) := ⟨rfl, rfl, rfl, by decide +kernel, rfl, by decide +kernel, by decide +kernel⟩
abbrev st_has_letters : Stmt := top 11
abbrev N_has_letters : List Str := ["k", "word", "letter"]
theorem sc_has_letters : FnScope N_has_letters ["k", "word"] (defScope st_has_letters) := ⟨rfl, rfl, rfl, by decide +kernel, rfl, by decide +kernel, by decide +kernel⟩
abbrev st_walked : Stmt := top 22
abbrev N_walked : List Str := ["machine", "state", "word", "parts", "letter", "out"]
theorem sc_walked : FnScope N_walked ["machine", "state", "word"] (defScope st_walked) := ⟨rfl, rfl, rfl, by decide +kernel, rfl, by decide +kernel, by decide +kernel⟩
abbrev st__law_number : Stmt := top 30
abbrev N__law_number : List Str := ["_law_cell"]
theorem sc__law_number : FnScope N__law_number ["_law_cell"] (defScope st__law_number) := ⟨rfl, rfl, rfl, by decide +kernel, rfl, by decide +kernel, by decide +kernel⟩
abbrev st__law_next : Stmt := top 32
abbrev N__law_next : List Str := ["_law_draws_here"]
theorem sc__law_next : FnScope N__law_next ["_law_draws_here"] (defScope st__law_next) := ⟨rfl, rfl, rfl, by decide +kernel, rfl, by decide +kernel, by decide +kernel⟩
abbrev st__law_walked : Stmt := top 34
abbrev N__law_walked : List Str := ["_law_machine_here", "_law_state", "_law_word", "_law_text_here", "_law_letter", "_law_out_here"]
theorem sc__law_walked : FnScope N__law_walked ["_law_machine_here", "_law_state", "_law_word"] (defScope st__law_walked) := ⟨rfl, rfl, rfl, by decide +kernel, rfl, by decide +kernel, by decide +kernel⟩
abbrev st__law_kind : Stmt := top 38
abbrev N__law_kind : List Str := ["_law_error", "_law_kinds"]
theorem sc__law_kind : FnScope N__law_kind ["_law_error"] (defScope st__law_kind) := ⟨rfl, rfl, rfl, by decide +kernel, rfl, by decide +kernel, by decide +kernel⟩
abbrev st_is_word : Stmt := top 12
abbrev N_is_word : List Str := ["k", "word"]
theorem sc_is_word : FnScope N_is_word ["k", "word"] (defScope st_is_word) := ⟨rfl, rfl, rfl, by decide +kernel, rfl, by decide +kernel, by decide +kernel⟩
abbrev st_is_string : Stmt := top 17
abbrev N_is_string : List Str := ["k", "text"]
theorem sc_is_string : FnScope N_is_string ["k", "text"] (defScope st_is_string) := ⟨rfl, rfl, rfl, by decide +kernel, rfl, by decide +kernel, by decide +kernel⟩
abbrev st_changed : Stmt := top 23
abbrev N_changed : List Str := ["machine", "word", "text", "state"]
theorem sc_changed : FnScope N_changed ["machine", "word"] (defScope st_changed) := ⟨rfl, rfl, rfl, by decide +kernel, rfl, by decide +kernel, by decide +kernel⟩
abbrev st_still : Stmt := top 28
abbrev N_still : List Str := ["k", "letter"]
theorem sc_still : FnScope N_still ["k"] (defScope st_still) := ⟨rfl, rfl, rfl, by decide +kernel, rfl, by decide +kernel, by decide +kernel⟩
abbrev st__law_draws : Stmt := top 31
abbrev N__law_draws : List Str := ["_law_script", "_law_draws_here", "_law_cell", "_law_rest", "_law_k", "_law_once", "_law_twice"]
theorem sc__law_draws : FnScope N__law_draws ["_law_script"] (defScope st__law_draws) := ⟨rfl, rfl, rfl, by decide +kernel, rfl, by decide +kernel, by decide +kernel⟩
abbrev st__law_text : Stmt := top 33
abbrev N__law_text : List Str := ["_law_draws_here", "_law_k", "_law_most", "_law_size", "_law_j"]
theorem sc__law_text : FnScope N__law_text ["_law_draws_here", "_law_k", "_law_most"] (defScope st__law_text) := ⟨rfl, rfl, rfl, by decide +kernel, rfl, by decide +kernel, by decide +kernel⟩
abbrev st__law_form : Stmt := top 35
abbrev N__law_form : List Str := ["_law_machine_here", "_law_word", "_law_text_here", "_law_state"]
theorem sc__law_form : FnScope N__law_form ["_law_machine_here", "_law_word"] (defScope st__law_form) := ⟨rfl, rfl, rfl, by decide +kernel, rfl, by decide +kernel, by decide +kernel⟩
abbrev st_check_word : Stmt := top 13
abbrev N_check_word : List Str := ["k", "word"]
theorem sc_check_word : FnScope N_check_word ["k", "word"] (defScope st_check_word) := ⟨rfl, rfl, rfl, by decide +kernel, rfl, by decide +kernel, by decide +kernel⟩
abbrev st_is_row : Stmt := top 18
abbrev N_is_row : List Str := ["k", "count", "row", "last", "entries", "out", "following"]
theorem sc_is_row : FnScope N_is_row ["k", "count", "row"] (defScope st_is_row) := ⟨rfl, rfl, rfl, by decide +kernel, rfl, by decide +kernel, by decide +kernel⟩
abbrev st__law_out : Stmt := top 36
abbrev N__law_out : List Str := ["_law_draws_here", "_law_k", "_law_letter", "_law_draw"]
theorem sc__law_out : FnScope N__law_out ["_law_draws_here", "_law_k", "_law_letter"] (defScope st__law_out) := ⟨rfl, rfl, rfl, by decide +kernel, rfl, by decide +kernel, by decide +kernel⟩
abbrev st__law_still : Stmt := top 40
abbrev N__law_still : List Str := ["_law_k", "_law_error"]
theorem sc__law_still : FnScope N__law_still ["_law_k"] (defScope st__law_still) := ⟨rfl, rfl, rfl, by decide +kernel, rfl, by decide +kernel, by decide +kernel⟩
abbrev st_is_formed : Stmt := top 19
abbrev N_is_formed : List Str := ["machine", "most", "k", "first", "rows", "row"]
theorem sc_is_formed : FnScope N_is_formed ["machine", "most"] (defScope st_is_formed) := ⟨rfl, rfl, rfl, by decide +kernel, rfl, by decide +kernel, by decide +kernel⟩
abbrev st__law_machine : Stmt := top 37
abbrev N__law_machine : List Str := ["_law_draws_here", "_law_k", "_law_most", "_law_count", "_law_rows", "_law_state", "_law_entries", "_law_letter", "_law_out_here", "_law_last"]
theorem sc__law_machine : FnScope N__law_machine ["_law_draws_here", "_law_k", "_law_most"] (defScope st__law_machine) := ⟨rfl, rfl, rfl, by decide +kernel, rfl, by decide +kernel, by decide +kernel⟩
abbrev st_is_wide : Stmt := top 20
abbrev N_is_wide : List Str := ["machine"]
theorem sc_is_wide : FnScope N_is_wide ["machine"] (defScope st_is_wide) := ⟨rfl, rfl, rfl, by decide +kernel, rfl, by decide +kernel, by decide +kernel⟩
abbrev st_check_wide : Stmt := top 21
abbrev N_check_wide : List Str := ["machine"]
theorem sc_check_wide : FnScope N_check_wide ["machine"] (defScope st_check_wide) := ⟨rfl, rfl, rfl, by decide +kernel, rfl, by decide +kernel, by decide +kernel⟩
abbrev st_check_call : Stmt := top 24
abbrev N_check_call : List Str := ["machine", "word"]
theorem sc_check_call : FnScope N_check_call ["machine", "word"] (defScope st_check_call) := ⟨rfl, rfl, rfl, by decide +kernel, rfl, by decide +kernel, by decide +kernel⟩
abbrev st_form : Stmt := top 25
abbrev N_form : List Str := ["machine", "word"]
theorem sc_form : FnScope N_form ["machine", "word"] (defScope st_form) := ⟨rfl, rfl, rfl, by decide +kernel, rfl, by decide +kernel, by decide +kernel⟩
abbrev st_written : Stmt := top 26
abbrev N_written : List Str := ["machine", "word"]
theorem sc_written : FnScope N_written ["machine", "word"] (defScope st_written) := ⟨rfl, rfl, rfl, by decide +kernel, rfl, by decide +kernel, by decide +kernel⟩
abbrev st_state_behind : Stmt := top 27
abbrev N_state_behind : List Str := ["machine", "word"]
theorem sc_state_behind : FnScope N_state_behind ["machine", "word"] (defScope st_state_behind) := ⟨rfl, rfl, rfl, by decide +kernel, rfl, by decide +kernel, by decide +kernel⟩
abbrev st__law_told : Stmt := top 39
abbrev N__law_told : List Str := ["_law_way", "_law_machine_here", "_law_word", "_law_error"]
theorem sc__law_told : FnScope N__law_told ["_law_way", "_law_machine_here", "_law_word"] (defScope st__law_told) := ⟨rfl, rfl, rfl, by decide +kernel, rfl, by decide +kernel, by decide +kernel⟩
abbrev st_law : Stmt := top 41
abbrev N_law : List Str := ["_law_script", "_law_draws_here", "_law_k", "_law_machine_here", "_law_word", "_law_text_here", "_law_state", "_law_due", "_law_bad", "_law_strange", "_law_way", "_law_size", "_law_calm", "_law_other", "_law_j"]
theorem sc_law : FnScope N_law ["_law_script"] (defScope st_law) := ⟨rfl, rfl, rfl, by decide +kernel, rfl, by decide +kernel, by decide +kernel⟩
structure Txt (K : PySem.W.Frag) (mg : Str → Option Value) : Prop where
  d_check_size : At K mg "check_size" st_check_size
  d_has_letters : At K mg "has_letters" st_has_letters
  d_walked : At K mg "walked" st_walked
  d__law_number : At K mg "_law_number" st__law_number
  d__law_next : At K mg "_law_next" st__law_next
  d__law_walked : At K mg "_law_walked" st__law_walked
  d__law_kind : At K mg "_law_kind" st__law_kind
  d_is_word : At K mg "is_word" st_is_word
  d_is_string : At K mg "is_string" st_is_string
  d_changed : At K mg "changed" st_changed
  d_still : At K mg "still" st_still
  d__law_draws : At K mg "_law_draws" st__law_draws
  d__law_text : At K mg "_law_text" st__law_text
  d__law_form : At K mg "_law_form" st__law_form
  d_check_word : At K mg "check_word" st_check_word
  d_is_row : At K mg "is_row" st_is_row
  d__law_out : At K mg "_law_out" st__law_out
  d__law_still : At K mg "_law_still" st__law_still
  d_is_formed : At K mg "is_formed" st_is_formed
  d__law_machine : At K mg "_law_machine" st__law_machine
  d_is_wide : At K mg "is_wide" st_is_wide
  d_check_wide : At K mg "check_wide" st_check_wide
  d_check_call : At K mg "check_call" st_check_call
  d_form : At K mg "form" st_form
  d_written : At K mg "written" st_written
  d_state_behind : At K mg "state_behind" st_state_behind
  d__law_told : At K mg "_law_told" st__law_told
  d_law : At K mg "law" st_law
  b_len : mg "len" = none
  b_all : mg "all" = none
  b_isinstance : mg "isinstance" = none
  b_tuple : mg "tuple" = none
  b_range : mg "range" = none
  b_int : mg "int" = none
  b_repr : mg "repr" = none
  b_str : mg "str" = none
  c_LETTERS : ∃ t, mg "LETTERS" = some (.str "abcdef" t)
  c_MOST_LETTERS : ∃ t, mg "MOST_LETTERS" = some (.int 60 t)
  c_LONGEST : ∃ t, mg "LONGEST" = some (.int 60 t)
  c_MOST_WIDE : ∃ t, mg "MOST_WIDE" = some (.int 2000 t)
  e_BadNumber : Ec K mg "BadNumber"
  e_NotWord : Ec K mg "NotWord"
  e_NotMachine : Ec K mg "NotMachine"
  e_NotRule : Ec K mg "NotRule"
  e_TooLarge : Ec K mg "TooLarge"
  e_ShiftError : Ec K mg "ShiftError"
  m_BadNumber_ShiftError : PySem.W.exmOne K (.ref (He.ga K "BadNumber")) (.ref (He.ga K "ShiftError")) = some true
  m_NotWord_ShiftError : PySem.W.exmOne K (.ref (He.ga K "NotWord")) (.ref (He.ga K "ShiftError")) = some true
  m_NotMachine_ShiftError : PySem.W.exmOne K (.ref (He.ga K "NotMachine")) (.ref (He.ga K "ShiftError")) = some true
  x_BadNumber : ExcC K (He.ga K "BadNumber")
  x_NotWord : ExcC K (He.ga K "NotWord")
  x_NotMachine : ExcC K (He.ga K "NotMachine")
  k_BadNumber_NotMachine : PySem.W.kitOne K (.ref (He.ga K "BadNumber")) (.ref (He.ga K "NotMachine")) = some false
  k_NotWord_NotMachine : PySem.W.kitOne K (.ref (He.ga K "NotWord")) (.ref (He.ga K "NotMachine")) = some false
  k_NotMachine_NotMachine : PySem.W.kitOne K (.ref (He.ga K "NotMachine")) (.ref (He.ga K "NotMachine")) = some true
  k_BadNumber_NotWord : PySem.W.kitOne K (.ref (He.ga K "BadNumber")) (.ref (He.ga K "NotWord")) = some false
  k_NotWord_NotWord : PySem.W.kitOne K (.ref (He.ga K "NotWord")) (.ref (He.ga K "NotWord")) = some true
  k_NotMachine_NotWord : PySem.W.kitOne K (.ref (He.ga K "NotMachine")) (.ref (He.ga K "NotWord")) = some false
  k_BadNumber_NotRule : PySem.W.kitOne K (.ref (He.ga K "BadNumber")) (.ref (He.ga K "NotRule")) = some false
  k_NotWord_NotRule : PySem.W.kitOne K (.ref (He.ga K "NotWord")) (.ref (He.ga K "NotRule")) = some false
  k_NotMachine_NotRule : PySem.W.kitOne K (.ref (He.ga K "NotMachine")) (.ref (He.ga K "NotRule")) = some false
  k_BadNumber_BadNumber : PySem.W.kitOne K (.ref (He.ga K "BadNumber")) (.ref (He.ga K "BadNumber")) = some true
  k_NotWord_BadNumber : PySem.W.kitOne K (.ref (He.ga K "NotWord")) (.ref (He.ga K "BadNumber")) = some false
  k_NotMachine_BadNumber : PySem.W.kitOne K (.ref (He.ga K "NotMachine")) (.ref (He.ga K "BadNumber")) = some false
  k_BadNumber_TooLarge : PySem.W.kitOne K (.ref (He.ga K "BadNumber")) (.ref (He.ga K "TooLarge")) = some false
  k_NotWord_TooLarge : PySem.W.kitOne K (.ref (He.ga K "NotWord")) (.ref (He.ga K "TooLarge")) = some false
  k_NotMachine_TooLarge : PySem.W.kitOne K (.ref (He.ga K "NotMachine")) (.ref (He.ga K "TooLarge")) = some false
  k_BadNumber_ShiftError : PySem.W.kitOne K (.ref (He.ga K "BadNumber")) (.ref (He.ga K "ShiftError")) = some true
  k_NotWord_ShiftError : PySem.W.kitOne K (.ref (He.ga K "NotWord")) (.ref (He.ga K "ShiftError")) = some true
  k_NotMachine_ShiftError : PySem.W.kitOne K (.ref (He.ga K "NotMachine")) (.ref (He.ga K "ShiftError")) = some true
theorem tabOk_ShiftError {K : PySem.W.Frag} {mg : Str → Option Value} (T : Txt K mg) : TabOk K mg (.ref (He.ga K "ShiftError")) tab_ShiftError := (tabOk_cons T.e_BadNumber.g T.m_BadNumber_ShiftError (tabOk_cons T.e_NotWord.g T.m_NotWord_ShiftError (tabOk_cons T.e_NotMachine.g T.m_NotMachine_ShiftError tabOk_nil)))
theorem isOk_NotMachine {K : PySem.W.Frag} {mg : Str → Option Value} (T : Txt K mg) : isTab K mg (He.ga K "NotMachine") is_NotMachine := (isOk_cons T.e_BadNumber.g T.k_BadNumber_NotMachine T.x_BadNumber (isOk_cons T.e_NotWord.g T.k_NotWord_NotMachine T.x_NotWord (isOk_cons T.e_NotMachine.g T.k_NotMachine_NotMachine T.x_NotMachine isOk_nil)))
theorem isOk_NotWord {K : PySem.W.Frag} {mg : Str → Option Value} (T : Txt K mg) : isTab K mg (He.ga K "NotWord") is_NotWord := (isOk_cons T.e_BadNumber.g T.k_BadNumber_NotWord T.x_BadNumber (isOk_cons T.e_NotWord.g T.k_NotWord_NotWord T.x_NotWord (isOk_cons T.e_NotMachine.g T.k_NotMachine_NotWord T.x_NotMachine isOk_nil)))
theorem isOk_NotRule {K : PySem.W.Frag} {mg : Str → Option Value} (T : Txt K mg) : isTab K mg (He.ga K "NotRule") is_NotRule := (isOk_cons T.e_BadNumber.g T.k_BadNumber_NotRule T.x_BadNumber (isOk_cons T.e_NotWord.g T.k_NotWord_NotRule T.x_NotWord (isOk_cons T.e_NotMachine.g T.k_NotMachine_NotRule T.x_NotMachine isOk_nil)))
theorem isOk_BadNumber {K : PySem.W.Frag} {mg : Str → Option Value} (T : Txt K mg) : isTab K mg (He.ga K "BadNumber") is_BadNumber := (isOk_cons T.e_BadNumber.g T.k_BadNumber_BadNumber T.x_BadNumber (isOk_cons T.e_NotWord.g T.k_NotWord_BadNumber T.x_NotWord (isOk_cons T.e_NotMachine.g T.k_NotMachine_BadNumber T.x_NotMachine isOk_nil)))
theorem isOk_TooLarge {K : PySem.W.Frag} {mg : Str → Option Value} (T : Txt K mg) : isTab K mg (He.ga K "TooLarge") is_TooLarge := (isOk_cons T.e_BadNumber.g T.k_BadNumber_TooLarge T.x_BadNumber (isOk_cons T.e_NotWord.g T.k_NotWord_TooLarge T.x_NotWord (isOk_cons T.e_NotMachine.g T.k_NotMachine_TooLarge T.x_NotMachine isOk_nil)))
theorem isOk_ShiftError {K : PySem.W.Frag} {mg : Str → Option Value} (T : Txt K mg) : isTab K mg (He.ga K "ShiftError") is_ShiftError := (isOk_cons T.e_BadNumber.g T.k_BadNumber_ShiftError T.x_BadNumber (isOk_cons T.e_NotWord.g T.k_NotWord_ShiftError T.x_NotWord (isOk_cons T.e_NotMachine.g T.k_NotMachine_ShiftError T.x_NotMachine isOk_nil)))
section
variable {P : Program} {w : World} {K : PySem.W.Frag} {mg : Str → Option Value} {base : Heap}
theorem ok_check_size (T : Txt K mg) : Ok P w K mg base 1 "check_size" ["k"] pm_check_size .pur 1 F_check_size :=
  ok_of (ms := ms_check_size) T.d_check_size sc_check_size (fun _ _ _ _ _ _ us hl => match us, hl with | [_], _ => rfl) rfl rfl (msOf_app rfl) (.inl rfl) fun cdv A outer s H E hr hgd tk =>
    (css_one (cs_if (ct_not (ct_chain or_le or_le sr_le sr_le (co_val ce_int) (co_val (ce_var 0)) (co_val (ce_callB cr_len sc_len T.b_len bt_len (ca_cons (co_val (ce_globS T.c_LETTERS)) ca_nil))))) (css_one (cs_raise T.e_BadNumber tk)) css_nil))

theorem ok_has_letters (T : Txt K mg) : Ok P w K mg base 1 "has_letters" ["k", "word"] pm_has_letters .pur 2 F_has_letters :=
  ok_of (ms := ms_has_letters) T.d_has_letters sc_has_letters (fun _ _ _ _ _ _ us hl => match us, hl with | [_, _], _ => rfl) rfl rfl (msOf_app rfl) (.inl rfl) fun cdv A outer s H E hr hgd tk =>
    (css_one (cs_ret (ce_callB (cr_all rfl) sc_all T.b_all bt_all (ca_cons (co_val (ce_own (ceo_lc (own := [("letter", 2)]) rfl sc_has_letters.nd (ci_any (ce_var 1)) (blkOk_by (N := N_has_letters) (sc := defScope st_has_letters) (by decide +kernel)) (fun _ _ _ _ _ => (cg_name (ms := ms_has_letters) 2 sc_has_letters.nd)) (fun _ _ _ _ _ => cts_nil) (fun _ _ _ _ _ => (ce_cmp (or_in hr.units hr.units65) sr_in (by rfl) (co_val (ce_var 2)) (co_val (ce_sl (co_val (ce_globS T.c_LETTERS)) cp_none (cp_some (ce_var 0))))))))) ca_nil))))

theorem ok_walked (T : Txt K mg) : Ok P w K mg base 1 "walked" ["machine", "state", "word"] pm_walked .pur 3 F_walked :=
  ok_of (ms := ms_walked) T.d_walked sc_walked (fun _ _ _ _ _ _ us hl => match us, hl with | [_, _, _], _ => rfl) rfl rfl (msOf_app rfl) (.inl rfl) fun cdv A outer s H E hr hgd tk =>
    (css_cons (cs_setO 3 sc_walked.nd (ceo_lst ca_nil))
    (css_cons (cs_for (passes_of rfl) rfl (ci_any (ce_var 2)) (cg_name (ms := ms_walked) 4 sc_walked.nd) (css_cons (cs_asg (ce_ix (co_val (ce_ix (co_val (ce_ix (co_val (ce_ix (co_val (ce_var 0)) (co_val ce_int))) (co_val (ce_var 1)))) (co_val ce_int))) (co_val (ce_meth PySem.F.plainAttrs_str PySem.F.slot_str_index PySem.F.type_str_index mt_sindex sm_indexS (co_val (ce_globS T.c_LETTERS)) (ca_cons (co_val (ce_var 4)) ca_nil)))) (cg_two2 (K := K) (ms := ms_walked) 5 1 sc_walked.nd))
    (css_one (cs_expr (ce_mut (i := 3) rfl PySem.F.slot_list_append PySem.F.type_list_append mt_append sx_append (ca_cons (co_val (ce_var 5)) ca_nil))))))
    (css_one (cs_ret (ce_tup (ca_cons (co_val (ce_meth PySem.F.plainAttrs_str PySem.F.slot_str_join PySem.F.type_str_join mt_join sm_join (co_val ce_str) (ca_cons (co_slot 3) ca_nil))) (ca_cons (co_val (ce_var 1)) ca_nil)))))))

theorem ok__law_number (T : Txt K mg) : Ok P w K mg base 1 "_law_number" ["_law_cell"] pm__law_number .pur 1 F__law_number :=
  ok_of (ms := ms__law_number) T.d__law_number sc__law_number (fun _ _ _ _ _ _ us hl => match us, hl with | [_], _ => rfl) rfl rfl (msOf_app rfl) (.inl rfl) fun cdv A outer s H E hr hgd tk =>
    (css_cons (cs_if (ct_cmp or_lt sr_lt (nomark _) (co_val (ce_var 0)) (co_val ce_int)) (css_one (cs_ret (ce_bin op_sub sr_sub (co_val ce_int) (co_val (ce_var 0))))) css_nil)
    (css_one (cs_ret (ce_var 0))))

theorem ok__law_next (T : Txt K mg) : Ok P w K mg base 1 "_law_next" ["_law_draws_here"] pm__law_next .pur 1 F__law_next :=
  ok_of (ms := ms__law_next) T.d__law_next sc__law_next (fun _ _ _ _ _ _ us hl => match us, hl with | [_], _ => rfl) rfl rfl (msOf_app rfl) (.inl rfl) fun cdv A outer s H E hr hgd tk =>
    (css_cons (cs_if (ct_tru (co_slot 0)) (css_one (cs_ret (ce_mut0 (i := 0) rfl PySem.F.slot_list_pop PySem.F.type_list_pop mt_pop sx_pop))) css_nil)
    (css_one (cs_ret ce_int)))

theorem ok__law_walked (T : Txt K mg) : Ok P w K mg base 1 "_law_walked" ["_law_machine_here", "_law_state", "_law_word"] pm__law_walked .pur 3 F__law_walked :=
  ok_of (ms := ms__law_walked) T.d__law_walked sc__law_walked (fun _ _ _ _ _ _ us hl => match us, hl with | [_, _, _], _ => rfl) rfl rfl (msOf_app rfl) (.inl rfl) fun cdv A outer s H E hr hgd tk =>
    (css_cons (cs_set 3 sc__law_walked.nd ce_str)
    (css_cons (cs_for (passes_of rfl) rfl (ci_any (ce_var 2)) (cg_name (ms := ms__law_walked) 4 sc__law_walked.nd) (css_cons (cs_asg (ce_ix (co_val (ce_ix (co_val (ce_ix (co_val (ce_ix (co_val (ce_var 0)) (co_val ce_int))) (co_val (ce_var 1)))) (co_val ce_int))) (co_val (ce_meth PySem.F.plainAttrs_str PySem.F.slot_str_index PySem.F.type_str_index mt_sindex sm_indexS (co_val ce_str) (ca_cons (co_val (ce_var 4)) ca_nil)))) (cg_two2 (K := K) (ms := ms__law_walked) 5 1 sc__law_walked.nd))
    (css_one (cs_set 3 sc__law_walked.nd (ce_bin or_add4 sr_add4 (co_val (ce_var 3)) (co_val (ce_var 5)))))))
    (css_one (cs_ret (ce_own (ceo_lst (ca_cons (co_val (ce_var 3)) (ca_cons (co_val (ce_var 1)) ca_nil))))))))

theorem ok__law_kind (T : Txt K mg) : OkE P w K mg base 1 "_law_kind" "_law_error" F__law_kind :=
  okE_of (ms := ms__law_kind) T.d__law_kind sc__law_kind (fun _ _ _ _ _ _ us hl => match us, hl with | [_], _ => rfl) rfl fun p c_ C cdv A outer s H E oc hr hgd =>
    (css_cons (cs_setO 1 sc__law_kind.nd (ceo_lst ca_nil))
    (css_cons (cs_if (ct_tru (co_val (ce_isP (X := _) (a := p.1) (oe := p.2) List.mem_cons_self oc.g oc.z oc.v T.e_NotMachine.g (isOk_NotMachine T) T.b_isinstance (by rfl)))) (css_one (cs_expr (ce_mut (i := 1) rfl PySem.F.slot_list_append PySem.F.type_list_append mt_append sx_append (ca_cons (co_val ce_str) ca_nil)))) css_nil)
    (css_cons (cs_if (ct_tru (co_val (ce_isP (X := _) (a := p.1) (oe := p.2) List.mem_cons_self oc.g oc.z oc.v T.e_NotWord.g (isOk_NotWord T) T.b_isinstance (by rfl)))) (css_one (cs_expr (ce_mut (i := 1) rfl PySem.F.slot_list_append PySem.F.type_list_append mt_append sx_append (ca_cons (co_val ce_str) ca_nil)))) css_nil)
    (css_cons (cs_if (ct_tru (co_val (ce_isP (X := _) (a := p.1) (oe := p.2) List.mem_cons_self oc.g oc.z oc.v T.e_NotRule.g (isOk_NotRule T) T.b_isinstance (by rfl)))) (css_one (cs_expr (ce_mut (i := 1) rfl PySem.F.slot_list_append PySem.F.type_list_append mt_append sx_append (ca_cons (co_val ce_str) ca_nil)))) css_nil)
    (css_cons (cs_if (ct_tru (co_val (ce_isP (X := _) (a := p.1) (oe := p.2) List.mem_cons_self oc.g oc.z oc.v T.e_BadNumber.g (isOk_BadNumber T) T.b_isinstance (by rfl)))) (css_one (cs_expr (ce_mut (i := 1) rfl PySem.F.slot_list_append PySem.F.type_list_append mt_append sx_append (ca_cons (co_val ce_str) ca_nil)))) css_nil)
    (css_cons (cs_if (ct_tru (co_val (ce_isP (X := _) (a := p.1) (oe := p.2) List.mem_cons_self oc.g oc.z oc.v T.e_TooLarge.g (isOk_TooLarge T) T.b_isinstance (by rfl)))) (css_one (cs_expr (ce_mut (i := 1) rfl PySem.F.slot_list_append PySem.F.type_list_append mt_append sx_append (ca_cons (co_val ce_str) ca_nil)))) css_nil)
    (css_cons (cs_if (ct_of (cw_and (ct_cmp (or_eq hr.units) sr_eq (nomark _) (co_val (ce_callB cr_len sc_len T.b_len bt_len (ca_cons (co_slot 1) ca_nil))) (co_val ce_int)) (cw_and1 (ct_tru (co_val (ce_isP (X := _) (a := p.1) (oe := p.2) List.mem_cons_self oc.g oc.z oc.v T.e_ShiftError.g (isOk_ShiftError T) T.b_isinstance (by rfl))))))) (css_one (cs_ret (ce_bin or_add4 sr_add4 (co_val ce_str) (co_val (ce_ix (co_slot 1) (co_val ce_int)))))) css_nil)
    (css_one (cs_ret ce_str)))))))))

theorem ok_is_word (T : Txt K mg) : Ok P w K mg base 2 "is_word" ["k", "word"] pm_is_word .pur 2 F_is_word :=
  ok_of (ms := ms_is_word) T.d_is_word sc_is_word (fun _ _ _ _ _ _ us hl => match us, hl with | [_, _], _ => rfl) rfl rfl (msOf_app rfl) (.inl rfl) fun cdv A outer s H E hr hgd tk =>
    (css_cons (cs_expr (ce_call (as := [.e (eVar 0)]) (ok_check_size T) hr hgd tk (by decide) (ca_cons (co_val (ce_var 0)) ca_nil)))
    (css_one (cs_ret (ce_and (ce_cmp or_le sr_le (nomark _) (co_val (ce_callB cr_len sc_len T.b_len bt_len (ca_cons (co_val (ce_var 1)) ca_nil))) (co_val (ce_globI T.c_MOST_LETTERS))) (ce_one (ce_call (as := [.e (eVar 0), .e (eVar 1)]) (ok_has_letters T) hr hgd tk (by decide) (ca_cons (co_val (ce_var 0)) (ca_cons (co_val (ce_var 1)) ca_nil))))))))

theorem ok_is_string (T : Txt K mg) : Ok P w K mg base 2 "is_string" ["k", "text"] pm_is_string .pur 2 F_is_string :=
  ok_of (ms := ms_is_string) T.d_is_string sc_is_string (fun _ _ _ _ _ _ us hl => match us, hl with | [_, _], _ => rfl) rfl rfl (msOf_app rfl) (.inl rfl) fun cdv A outer s H E hr hgd tk =>
    (css_one (cs_ret (ce_and (ce_cmp or_le sr_le (nomark _) (co_val (ce_callB cr_len sc_len T.b_len bt_len (ca_cons (co_val (ce_var 1)) ca_nil))) (co_val (ce_globI T.c_LONGEST))) (ce_one (ce_call (as := [.e (eVar 0), .e (eVar 1)]) (ok_has_letters T) hr hgd tk (by decide) (ca_cons (co_val (ce_var 0)) (ca_cons (co_val (ce_var 1)) ca_nil)))))))

theorem ok_changed (T : Txt K mg) : Ok P w K mg base 2 "changed" ["machine", "word"] pm_changed .pur 2 F_changed :=
  ok_of (ms := ms_changed) T.d_changed sc_changed (fun _ _ _ _ _ _ us hl => match us, hl with | [_, _], _ => rfl) rfl rfl (msOf_app rfl) (.inl rfl) fun cdv A outer s H E hr hgd tk =>
    (css_cons (cs_asg (ce_call (as := [.e (eVar 0), .e (eCst (.int 0)), .e (eVar 1)]) (ok_walked T) hr hgd tk (by decide) (ca_cons (co_val (ce_var 0)) (ca_cons (co_val ce_int) (ca_cons (co_val (ce_var 1)) ca_nil)))) (cg_two2 (K := K) (ms := ms_changed) 2 3 sc_changed.nd))
    (css_one (cs_ret (ce_bin or_add4 sr_add4 (co_val (ce_bin or_add4 sr_add4 (co_val (ce_ix (co_val (ce_var 0)) (co_val ce_int))) (co_val (ce_var 2)))) (co_val (ce_ix (co_val (ce_ix (co_val (ce_ix (co_val (ce_var 0)) (co_val ce_int))) (co_val (ce_var 3)))) (co_val ce_int)))))))

theorem ok_still (T : Txt K mg) : Ok P w K mg base 2 "still" ["k"] pm_still .pur 1 F_still :=
  ok_of (ms := ms_still) T.d_still sc_still (fun _ _ _ _ _ _ us hl => match us, hl with | [_], _ => rfl) rfl rfl (msOf_app rfl) (.inl rfl) fun cdv A outer s H E hr hgd tk =>
    (css_cons (cs_expr (ce_call (as := [.e (eVar 0)]) (ok_check_size T) hr hgd tk (by decide) (ca_cons (co_val (ce_var 0)) ca_nil)))
    (css_one (cs_ret (ce_tup (ca_cons (co_val (ce_var 0)) (ca_cons (co_val ce_str) (ca_cons (co_val (ce_tup (ca_cons (co_val (ce_tup (ca_cons (co_val ce_str) (ca_cons (co_val (ce_callTy call_tuple_of sc_tuple T.b_tuple bt_tuple (ca_cons (co_val (ce_own (ceo_lc (own := [("letter", 1)]) rfl sc_still.nd (ci_any (ce_sl (co_val (ce_globS T.c_LETTERS)) cp_none (cp_some (ce_var 0)))) (blkOk_by (N := N_still) (sc := defScope st_still) (by decide +kernel)) (fun _ _ _ _ _ => (cg_name (ms := ms_still) 1 sc_still.nd)) (fun _ _ _ _ _ => cts_nil) (fun _ _ _ _ _ => (ce_tup (ca_cons (co_val (ce_var 1)) (ca_cons (co_val ce_int) ca_nil))))))) ca_nil))) ca_nil)))) ca_nil))) ca_nil)))))))

theorem ok__law_draws (T : Txt K mg) : Ok P w K mg base 2 "_law_draws" ["_law_script"] pm__law_draws .lst 1 F__law_draws :=
  ok_of (ms := ms__law_draws) T.d__law_draws sc__law_draws (fun _ _ _ _ _ _ us hl => match us, hl with | [_], _ => rfl) rfl rfl (msOf_app rfl) (.inr fun ds r => (show Nnx g__law_draws from (nnx_seq (nnx_seq nnx_ret))) _ r) fun cdv A outer s H E hr hgd tk =>
    (css_cons (cs_setO 1 sc__law_draws.nd (ceo_lst ca_nil))
    (css_cons (cs_for (passes_of rfl) rfl (ci_any (ce_var 0)) (cg_name (ms := ms__law_draws) 2 sc__law_draws.nd) (css_cons (cs_set 3 sc__law_draws.nd (ce_call (as := [.e (eVar 2)]) (ok__law_number T) hr hgd tk (by decide) (ca_cons (co_val (ce_var 2)) ca_nil)))
    (css_one (cs_if (ct_cmp or_ge sr_ge (nomark _) (co_val (ce_var 3)) (co_val ce_int)) (css_one (cs_for (passes_of rfl) rfl (ci_rng1 T.b_range (ca_cons (co_val ce_int) ca_nil)) (cg_name (ms := ms__law_draws) 4 sc__law_draws.nd) (css_cons (cs_if (ct_cmp (or_eq hr.units) sr_eq (nomark _) (co_val (ce_var 3)) (co_val ce_int)) (css_one cs_break) css_nil)
    (css_cons (cs_expr (ce_mut (i := 1) rfl PySem.F.slot_list_append PySem.F.type_list_append mt_append sx_append (ca_cons (co_val (ce_bin op_mod sr_mod (co_val (ce_callTy cr_int sc_int T.b_int bt_int (ca_cons (co_val (ce_var 3)) ca_nil))) (co_val ce_int))) ca_nil)))
    (css_one (cs_set 3 sc__law_draws.nd (ce_bin op_fdiv sr_fdiv (co_val (ce_var 3)) (co_val ce_int)))))))) (css_cons (cs_set 5 sc__law_draws.nd (ce_bin op_mod sr_mod (co_val (ce_callTy cr_int sc_int T.b_int bt_int (ca_cons (co_val (ce_bin or_add4 sr_add4 (co_val (ce_bin or_mul5 sr_mul5 (co_val (ce_var 3)) (co_val ce_int))) (co_val ce_int))) ca_nil))) (co_val ce_int)))
    (css_cons (cs_set 6 sc__law_draws.nd (ce_bin op_mod sr_mod (co_val (ce_callTy cr_int sc_int T.b_int bt_int (ca_cons (co_val (ce_bin or_add4 sr_add4 (co_val (ce_bin or_mul5 sr_mul5 (co_val (ce_var 5)) (co_val ce_int))) (co_val (ce_var 3)))) ca_nil))) (co_val ce_int)))
    (css_one (cs_expr (ce_mut (i := 1) rfl PySem.F.slot_list_extend PySem.F.type_list_extend mt_extendD sx_extend (ca_cons (co_val (ce_own (ceo_lst (ca_cons (co_val (ce_bin op_mod sr_mod (co_val (ce_callTy cr_int sc_int T.b_int bt_int (ca_cons (co_val (ce_var 3)) ca_nil))) (co_val ce_int))) (ca_cons (co_val (ce_bin op_mod sr_mod (co_val (ce_callTy cr_int sc_int T.b_int bt_int (ca_cons (co_val (ce_var 5)) ca_nil))) (co_val ce_int))) (ca_cons (co_val (ce_bin op_mod sr_mod (co_val (ce_callTy cr_int sc_int T.b_int bt_int (ca_cons (co_val (ce_var 6)) ca_nil))) (co_val ce_int))) ca_nil)))))) ca_nil))))))))))
    (css_one (cs_retO (ceo_mv 1)))))

theorem ok__law_text (T : Txt K mg) : Ok P w K mg base 2 "_law_text" ["_law_draws_here", "_law_k", "_law_most"] pm__law_text .pur 3 F__law_text :=
  ok_of (ms := ms__law_text) T.d__law_text sc__law_text (fun _ _ _ _ _ _ us hl => match us, hl with | [_, _, _], _ => rfl) rfl rfl (msOf_app rfl) (.inl rfl) fun cdv A outer s H E hr hgd tk =>
    (css_cons (cs_set 3 sc__law_text.nd (ce_bin op_mod sr_mod (co_val (ce_callTy cr_int sc_int T.b_int bt_int (ca_cons (co_val (ce_call (as := [.s 0]) (ok__law_next T) hr hgd tk (by decide) (ca_cons (co_slot 0) ca_nil))) ca_nil))) (co_val (ce_bin or_add4 sr_add4 (co_val (ce_var 2)) (co_val ce_int)))))
    (css_one (cs_ret (ce_meth PySem.F.plainAttrs_str PySem.F.slot_str_join PySem.F.type_str_join mt_join sm_join (co_val ce_str) (ca_cons (co_val (ce_own (ceo_lc (own := [("_law_j", 4)]) rfl sc__law_text.nd (ci_rng1 T.b_range (ca_cons (co_val (ce_var 3)) ca_nil)) (blkOk_by (N := N__law_text) (sc := defScope st__law_text) (by decide +kernel)) (fun _ _ _ _ _ => (cg_name (ms := ms__law_text) 4 sc__law_text.nd)) (fun _ _ _ _ _ => cts_nil) (fun _ _ _ _ _ => (ce_ix (co_val ce_str) (co_val (ce_bin op_mod sr_mod (co_val (ce_callTy cr_int sc_int T.b_int bt_int (ca_cons (co_val (ce_call (as := [.s 0]) (ok__law_next T) hr hgd takesW0 (by decide) (ca_cons (co_slot 0) ca_nil))) ca_nil))) (co_val (ce_var 1))))))))) ca_nil)))))

theorem ok__law_form (T : Txt K mg) : Ok P w K mg base 2 "_law_form" ["_law_machine_here", "_law_word"] pm__law_form .pur 2 F__law_form :=
  ok_of (ms := ms__law_form) T.d__law_form sc__law_form (fun _ _ _ _ _ _ us hl => match us, hl with | [_, _], _ => rfl) rfl rfl (msOf_app rfl) (.inl rfl) fun cdv A outer s H E hr hgd tk =>
    (css_cons (cs_asg (ce_call (as := [.e (eVar 0), .e (eCst (.int 0)), .e (eVar 1)]) (ok__law_walked T) hr hgd tk (by decide) (ca_cons (co_val (ce_var 0)) (ca_cons (co_val ce_int) (ca_cons (co_val (ce_var 1)) ca_nil)))) (cg_two2 (K := K) (ms := ms__law_form) 2 3 sc__law_form.nd))
    (css_one (cs_ret (ce_bin or_add4 sr_add4 (co_val (ce_bin or_add4 sr_add4 (co_val (ce_ix (co_val (ce_var 0)) (co_val ce_int))) (co_val (ce_var 2)))) (co_val (ce_ix (co_val (ce_ix (co_val (ce_ix (co_val (ce_var 0)) (co_val ce_int))) (co_val (ce_var 3)))) (co_val ce_int)))))))

theorem ok_check_word (T : Txt K mg) : Ok P w K mg base 3 "check_word" ["k", "word"] pm_check_word .pur 2 F_check_word :=
  ok_of (ms := ms_check_word) T.d_check_word sc_check_word (fun _ _ _ _ _ _ us hl => match us, hl with | [_, _], _ => rfl) rfl rfl (msOf_app rfl) (.inl rfl) fun cdv A outer s H E hr hgd tk =>
    (css_one (cs_if (ct_not (ct_tru (co_val (ce_call (as := [.e (eVar 0), .e (eVar 1)]) (ok_is_word T) hr hgd tk (by decide) (ca_cons (co_val (ce_var 0)) (ca_cons (co_val (ce_var 1)) ca_nil)))))) (css_one (cs_raise T.e_NotWord tk)) css_nil))

theorem ok_is_row (T : Txt K mg) : Ok P w K mg base 3 "is_row" ["k", "count", "row"] pm_is_row .pur 3 F_is_row :=
  ok_of (ms := ms_is_row) T.d_is_row sc_is_row (fun _ _ _ _ _ _ us hl => match us, hl with | [_, _, _], _ => rfl) rfl rfl (msOf_app rfl) (.inl rfl) fun cdv A outer s H E hr hgd tk =>
    (css_cons (cs_asg (ce_var 2) (cg_two2 (K := K) (ms := ms_is_row) 3 4 sc_is_row.nd))
    (css_cons (cs_if (ct_of (cw_or (ct_not (ct_tru (co_val (ce_call (as := [.e (eVar 0), .e (eVar 3)]) (ok_is_string T) hr hgd tk (by decide) (ca_cons (co_val (ce_var 0)) (ca_cons (co_val (ce_var 3)) ca_nil)))))) (cw_or1 (ct_cmp (or_ne hr.units) sr_ne (nomark _) (co_val (ce_callB cr_len sc_len T.b_len bt_len (ca_cons (co_val (ce_var 4)) ca_nil))) (co_val (ce_var 0)))))) (css_one (cs_ret ce_bl)) css_nil)
    (css_one (cs_ret (ce_callB (cr_all rfl) sc_all T.b_all bt_all (ca_cons (co_val (ce_own (ceo_lc (own := [("out", 5), ("following", 6)]) rfl sc_is_row.nd (ci_any (ce_var 4)) (blkOk_by (N := N_is_row) (sc := defScope st_is_row) (by decide +kernel)) (fun _ _ _ _ _ => (cg_two2 (K := K) (ms := ms_is_row) 5 6 sc_is_row.nd)) (fun _ _ _ _ _ => cts_nil) (fun _ _ _ _ _ => (ce_and (ce_call (as := [.e (eVar 0), .e (eVar 5)]) (ok_is_string T) hr hgd takesW0 (by decide) (ca_cons (co_val (ce_var 0)) (ca_cons (co_val (ce_var 5)) ca_nil))) (ce_one (ce_chain or_le or_lt sr_le sr_lt (co_val ce_int) (co_val (ce_var 6)) (co_val (ce_var 1))))))))) ca_nil))))))

theorem ok__law_out (T : Txt K mg) : Ok P w K mg base 3 "_law_out" ["_law_draws_here", "_law_k", "_law_letter"] pm__law_out .pur 3 F__law_out :=
  ok_of (ms := ms__law_out) T.d__law_out sc__law_out (fun _ _ _ _ _ _ us hl => match us, hl with | [_, _, _], _ => rfl) rfl rfl (msOf_app rfl) (.inl rfl) fun cdv A outer s H E hr hgd tk =>
    (css_cons (cs_set 3 sc__law_out.nd (ce_bin op_mod sr_mod (co_val (ce_callTy cr_int sc_int T.b_int bt_int (ca_cons (co_val (ce_call (as := [.s 0]) (ok__law_next T) hr hgd tk (by decide) (ca_cons (co_slot 0) ca_nil))) ca_nil))) (co_val ce_int)))
    (css_cons (cs_if (ct_cmp or_lt sr_lt (nomark _) (co_val (ce_var 3)) (co_val ce_int)) (css_one (cs_ret (ce_ix (co_val ce_str) (co_val (ce_var 2))))) css_nil)
    (css_cons (cs_if (ct_cmp (or_eq hr.units) sr_eq (nomark _) (co_val (ce_var 3)) (co_val ce_int)) (css_one (cs_ret ce_str)) css_nil)
    (css_one (cs_ret (ce_call (as := [.s 0, .e (eVar 1), .e (eBin dSub (oVal (eVar 3)) (oVal (eCst (.int 3))))]) (ok__law_text T) hr hgd tk (by decide) (ca_cons (co_slot 0) (ca_cons (co_val (ce_var 1)) (ca_cons (co_val (ce_bin op_sub sr_sub (co_val (ce_var 3)) (co_val ce_int))) ca_nil)))))))))

theorem ok__law_still (T : Txt K mg) : Ok P w K mg base 3 "_law_still" ["_law_k"] pm__law_still .pur 1 F__law_still :=
  ok_of (ms := ms__law_still) T.d__law_still sc__law_still (fun _ _ _ _ _ _ us hl => match us, hl with | [_], _ => rfl) rfl rfl (msOf_app rfl) (.inl rfl) fun cdv A outer s H E hr hgd tk =>
    (css_one (cs_tryAs (i := 1) sc__law_still.nd ⟨rfl, by decide, .inl T.e_ShiftError.g⟩ tk (tabOk_ShiftError T) (fun W' pn xe tk' po' => (css_one (cs_ret (ce_call (as := [.e (eVar 0)]) (ok_still T) hr hgd tk' (by decide) (ca_cons (co_val (ce_var 0)) ca_nil))))) (fun a oe D c_ pn hD hT hZ hV => (css_one (cs_ret (ce_callE (c := c_) (ok__law_kind T) hr hgd (by decide) hD hZ hV (by rfl)))))))

theorem ok_is_formed (T : Txt K mg) : Ok P w K mg base 4 "is_formed" ["machine", "most"] pm_is_formed .pur 2 F_is_formed :=
  ok_of (ms := ms_is_formed) T.d_is_formed sc_is_formed (fun _ _ _ _ _ _ us hl => match us, hl with | [_, _], _ => rfl) rfl rfl (msOf_app rfl) (.inl rfl) fun cdv A outer s H E hr hgd tk =>
    (css_cons (cs_asg (ce_var 0) (cg_seq (K := K) rfl (cgs_cons (cg_name (ms := ms_is_formed) 2 sc_is_formed.nd) (cgs_cons (cg_name (ms := ms_is_formed) 3 sc_is_formed.nd) (cgs_cons (cg_name (ms := ms_is_formed) 4 sc_is_formed.nd) cgs_nil)))))
    (css_cons (cs_if (ct_of (cw_or (ct_not (ct_chain or_le or_le sr_le sr_le (co_val ce_int) (co_val (ce_var 2)) (co_val ce_int))) (cw_or (ct_not (ct_chain or_le or_le sr_le sr_le (co_val ce_int) (co_val (ce_callB cr_len sc_len T.b_len bt_len (ca_cons (co_val (ce_var 4)) ca_nil))) (co_val (ce_var 1)))) (cw_or1 (ct_not (ct_tru (co_val (ce_call (as := [.e (eVar 2), .e (eVar 3)]) (ok_is_string T) hr hgd tk (by decide) (ca_cons (co_val (ce_var 2)) (ca_cons (co_val (ce_var 3)) ca_nil)))))))))) (css_one (cs_ret ce_bl)) css_nil)
    (css_one (cs_ret (ce_callB (cr_all rfl) sc_all T.b_all bt_all (ca_cons (co_val (ce_own (ceo_lc (own := [("row", 5)]) rfl sc_is_formed.nd (ci_any (ce_var 4)) (blkOk_by (N := N_is_formed) (sc := defScope st_is_formed) (by decide +kernel)) (fun _ _ _ _ _ => (cg_name (ms := ms_is_formed) 5 sc_is_formed.nd)) (fun _ _ _ _ _ => cts_nil) (fun _ _ _ _ _ => (ce_call (as := [.e (eVar 2), .e (eCall cLen (aCons (oVal (eVar 4)) aNil)), .e (eVar 5)]) (ok_is_row T) hr hgd takesW0 (by decide) (ca_cons (co_val (ce_var 2)) (ca_cons (co_val (ce_callB cr_len sc_len T.b_len bt_len (ca_cons (co_val (ce_var 4)) ca_nil))) (ca_cons (co_val (ce_var 5)) ca_nil)))))))) ca_nil))))))

theorem ok__law_machine (T : Txt K mg) : Ok P w K mg base 4 "_law_machine" ["_law_draws_here", "_law_k", "_law_most"] pm__law_machine .pur 3 F__law_machine :=
  ok_of (ms := ms__law_machine) T.d__law_machine sc__law_machine (fun _ _ _ _ _ _ us hl => match us, hl with | [_, _, _], _ => rfl) rfl rfl (msOf_app rfl) (.inl rfl) fun cdv A outer s H E hr hgd tk =>
    (css_cons (cs_set 3 sc__law_machine.nd (ce_bin or_add4 sr_add4 (co_val ce_int) (co_val (ce_bin op_mod sr_mod (co_val (ce_callTy cr_int sc_int T.b_int bt_int (ca_cons (co_val (ce_call (as := [.s 0]) (ok__law_next T) hr hgd tk (by decide) (ca_cons (co_slot 0) ca_nil))) ca_nil))) (co_val (ce_var 2))))))
    (css_cons (cs_setO 4 sc__law_machine.nd (ceo_lst ca_nil))
    (css_cons (cs_for (passes_of rfl) rfl (ci_rng1 T.b_range (ca_cons (co_val (ce_var 3)) ca_nil)) (cg_name (ms := ms__law_machine) 5 sc__law_machine.nd) (css_cons (cs_setO 6 sc__law_machine.nd (ceo_lst ca_nil))
    (css_cons (cs_for (passes_of rfl) rfl (ci_rng1 T.b_range (ca_cons (co_val (ce_var 1)) ca_nil)) (cg_name (ms := ms__law_machine) 7 sc__law_machine.nd) (css_cons (cs_set 8 sc__law_machine.nd (ce_call (as := [.s 0, .e (eVar 1), .e (eVar 7)]) (ok__law_out T) hr hgd tk (by decide) (ca_cons (co_slot 0) (ca_cons (co_val (ce_var 1)) (ca_cons (co_val (ce_var 7)) ca_nil)))))
    (css_one (cs_expr (ce_mut (i := 6) rfl PySem.F.slot_list_append PySem.F.type_list_append mt_append sx_append (ca_cons (co_val (ce_tup (ca_cons (co_val (ce_var 8)) (ca_cons (co_val (ce_bin op_mod sr_mod (co_val (ce_callTy cr_int sc_int T.b_int bt_int (ca_cons (co_val (ce_call (as := [.s 0]) (ok__law_next T) hr hgd tk (by decide) (ca_cons (co_slot 0) ca_nil))) ca_nil))) (co_val (ce_var 3)))) ca_nil)))) ca_nil))))))
    (css_cons (cs_set 9 sc__law_machine.nd ce_str)
    (css_cons (cs_if (ct_cmp (or_eq hr.units) sr_eq (nomark _) (co_val (ce_bin op_mod sr_mod (co_val (ce_callTy cr_int sc_int T.b_int bt_int (ca_cons (co_val (ce_call (as := [.s 0]) (ok__law_next T) hr hgd tk (by decide) (ca_cons (co_slot 0) ca_nil))) ca_nil))) (co_val ce_int))) (co_val ce_int)) (css_one (cs_set 9 sc__law_machine.nd (ce_call (as := [.s 0, .e (eVar 1), .e (eCst (.int 2))]) (ok__law_text T) hr hgd tk (by decide) (ca_cons (co_slot 0) (ca_cons (co_val (ce_var 1)) (ca_cons (co_val ce_int) ca_nil)))))) css_nil)
    (css_one (cs_expr (ce_mut (i := 4) rfl PySem.F.slot_list_append PySem.F.type_list_append mt_append sx_append (ca_cons (co_val (ce_tup (ca_cons (co_val (ce_var 9)) (ca_cons (co_val (ce_callTy call_tuple_of sc_tuple T.b_tuple bt_tuple (ca_cons (co_slot 6) ca_nil))) ca_nil)))) ca_nil)))))))))
    (css_one (cs_ret (ce_tup (ca_cons (co_val (ce_var 1)) (ca_cons (co_val (ce_call (as := [.s 0, .e (eVar 1), .e (eBin dMod (oVal (eCall cInt (aCons (oVal (eFn F__law_next [.s 0])) aNil))) (oVal (eCst (.int 2))))]) (ok__law_text T) hr hgd tk (by decide) (ca_cons (co_slot 0) (ca_cons (co_val (ce_var 1)) (ca_cons (co_val (ce_bin op_mod sr_mod (co_val (ce_callTy cr_int sc_int T.b_int bt_int (ca_cons (co_val (ce_call (as := [.s 0]) (ok__law_next T) hr hgd tk (by decide) (ca_cons (co_slot 0) ca_nil))) ca_nil))) (co_val ce_int))) ca_nil))))) (ca_cons (co_val (ce_callTy call_tuple_of sc_tuple T.b_tuple bt_tuple (ca_cons (co_slot 4) ca_nil))) ca_nil)))))))))

theorem ok_is_wide (T : Txt K mg) : Ok P w K mg base 5 "is_wide" ["machine"] pm_is_wide .pur 1 F_is_wide :=
  ok_of (ms := ms_is_wide) T.d_is_wide sc_is_wide (fun _ _ _ _ _ _ us hl => match us, hl with | [_], _ => rfl) rfl rfl (msOf_app rfl) (.inl rfl) fun cdv A outer s H E hr hgd tk =>
    (css_one (cs_ret (ce_call (as := [.e (eVar 0), .e (eCst (.int 2000))]) (ok_is_formed T) hr hgd tk (by decide) (ca_cons (co_val (ce_var 0)) (ca_cons (co_val (ce_globI T.c_MOST_WIDE)) ca_nil)))))

theorem ok_check_wide (T : Txt K mg) : Ok P w K mg base 6 "check_wide" ["machine"] pm_check_wide .pur 1 F_check_wide :=
  ok_of (ms := ms_check_wide) T.d_check_wide sc_check_wide (fun _ _ _ _ _ _ us hl => match us, hl with | [_], _ => rfl) rfl rfl (msOf_app rfl) (.inl rfl) fun cdv A outer s H E hr hgd tk =>
    (css_one (cs_if (ct_not (ct_tru (co_val (ce_call (as := [.e (eVar 0)]) (ok_is_wide T) hr hgd tk (by decide) (ca_cons (co_val (ce_var 0)) ca_nil))))) (css_one (cs_raise T.e_NotMachine tk)) css_nil))

theorem ok_check_call (T : Txt K mg) : Ok P w K mg base 7 "check_call" ["machine", "word"] pm_check_call .pur 2 F_check_call :=
  ok_of (ms := ms_check_call) T.d_check_call sc_check_call (fun _ _ _ _ _ _ us hl => match us, hl with | [_, _], _ => rfl) rfl rfl (msOf_app rfl) (.inl rfl) fun cdv A outer s H E hr hgd tk =>
    (css_cons (cs_expr (ce_call (as := [.e (eVar 0)]) (ok_check_wide T) hr hgd tk (by decide) (ca_cons (co_val (ce_var 0)) ca_nil)))
    (css_one (cs_expr (ce_call (as := [.e (eBin dIx (oVal (eVar 0)) (oVal (eCst (.int 0)))), .e (eVar 1)]) (ok_check_word T) hr hgd tk (by decide) (ca_cons (co_val (ce_ix (co_val (ce_var 0)) (co_val ce_int))) (ca_cons (co_val (ce_var 1)) ca_nil))))))

theorem ok_form (T : Txt K mg) : Ok P w K mg base 8 "form" ["machine", "word"] pm_form .pur 2 F_form :=
  ok_of (ms := ms_form) T.d_form sc_form (fun _ _ _ _ _ _ us hl => match us, hl with | [_, _], _ => rfl) rfl rfl (msOf_app rfl) (.inl rfl) fun cdv A outer s H E hr hgd tk =>
    (css_cons (cs_expr (ce_call (as := [.e (eVar 0), .e (eVar 1)]) (ok_check_call T) hr hgd tk (by decide) (ca_cons (co_val (ce_var 0)) (ca_cons (co_val (ce_var 1)) ca_nil))))
    (css_one (cs_ret (ce_call (as := [.e (eVar 0), .e (eVar 1)]) (ok_changed T) hr hgd tk (by decide) (ca_cons (co_val (ce_var 0)) (ca_cons (co_val (ce_var 1)) ca_nil))))))

theorem ok_written (T : Txt K mg) : Ok P w K mg base 8 "written" ["machine", "word"] pm_written .pur 2 F_written :=
  ok_of (ms := ms_written) T.d_written sc_written (fun _ _ _ _ _ _ us hl => match us, hl with | [_, _], _ => rfl) rfl rfl (msOf_app rfl) (.inl rfl) fun cdv A outer s H E hr hgd tk =>
    (css_cons (cs_expr (ce_call (as := [.e (eVar 0), .e (eVar 1)]) (ok_check_call T) hr hgd tk (by decide) (ca_cons (co_val (ce_var 0)) (ca_cons (co_val (ce_var 1)) ca_nil))))
    (css_one (cs_ret (ce_bin or_add4 sr_add4 (co_val (ce_ix (co_val (ce_var 0)) (co_val ce_int))) (co_val (ce_ix (co_val (ce_call (as := [.e (eVar 0), .e (eCst (.int 0)), .e (eVar 1)]) (ok_walked T) hr hgd tk (by decide) (ca_cons (co_val (ce_var 0)) (ca_cons (co_val ce_int) (ca_cons (co_val (ce_var 1)) ca_nil))))) (co_val ce_int)))))))

theorem ok_state_behind (T : Txt K mg) : Ok P w K mg base 8 "state_behind" ["machine", "word"] pm_state_behind .pur 2 F_state_behind :=
  ok_of (ms := ms_state_behind) T.d_state_behind sc_state_behind (fun _ _ _ _ _ _ us hl => match us, hl with | [_, _], _ => rfl) rfl rfl (msOf_app rfl) (.inl rfl) fun cdv A outer s H E hr hgd tk =>
    (css_cons (cs_expr (ce_call (as := [.e (eVar 0), .e (eVar 1)]) (ok_check_call T) hr hgd tk (by decide) (ca_cons (co_val (ce_var 0)) (ca_cons (co_val (ce_var 1)) ca_nil))))
    (css_one (cs_ret (ce_ix (co_val (ce_call (as := [.e (eVar 0), .e (eCst (.int 0)), .e (eVar 1)]) (ok_walked T) hr hgd tk (by decide) (ca_cons (co_val (ce_var 0)) (ca_cons (co_val ce_int) (ca_cons (co_val (ce_var 1)) ca_nil))))) (co_val ce_int)))))

theorem ok__law_told (T : Txt K mg) : Ok P w K mg base 9 "_law_told" ["_law_way", "_law_machine_here", "_law_word"] pm__law_told .pur 3 F__law_told :=
  ok_of (ms := ms__law_told) T.d__law_told sc__law_told (fun _ _ _ _ _ _ us hl => match us, hl with | [_, _, _], _ => rfl) rfl rfl (msOf_app rfl) (.inl rfl) fun cdv A outer s H E hr hgd tk =>
    (css_one (cs_tryAs (i := 3) sc__law_told.nd ⟨rfl, by decide, .inl T.e_ShiftError.g⟩ tk (tabOk_ShiftError T) (fun W' pn xe tk' po' => (css_cons (cs_if (ct_cmp (or_eq hr.units) sr_eq (nomark _) (co_val (ce_var 0)) (co_val ce_int)) (css_one (cs_ret (ce_call (as := [.e (eVar 1), .e (eVar 2)]) (ok_form T) hr hgd tk' (by decide) (ca_cons (co_val (ce_var 1)) (ca_cons (co_val (ce_var 2)) ca_nil))))) css_nil)
    (css_cons (cs_if (ct_cmp (or_eq hr.units) sr_eq (nomark _) (co_val (ce_var 0)) (co_val ce_int)) (css_one (cs_ret (ce_call (as := [.e (eVar 1), .e (eVar 2)]) (ok_written T) hr hgd tk' (by decide) (ca_cons (co_val (ce_var 1)) (ca_cons (co_val (ce_var 2)) ca_nil))))) css_nil)
    (css_one (cs_ret (ce_call (as := [.e (eVar 1), .e (eVar 2)]) (ok_state_behind T) hr hgd tk' (by decide) (ca_cons (co_val (ce_var 1)) (ca_cons (co_val (ce_var 2)) ca_nil)))))))) (fun a oe D c_ pn hD hT hZ hV => (css_one (cs_ret (ce_callE (c := c_) (ok__law_kind T) hr hgd (by decide) hD hZ hV (by rfl)))))))

theorem fn_law {fd : FuncData} (FD : FunD K "law" "law" (defArgs st_law) (defBody st_law) (defScope st_law) [] [] (He.ga K "law") fd) (T : Txt K mg) : FnG P w K mg base 10 (He.ga K "law") fd ["_law_script"] (spF K mg pm_law .pur 1 F_law) :=
  fnG_body (ms := ms_law) FD sc_law rfl rfl (msOf_app rfl) (.inl rfl) fun cdv A outer s H E hr hgd tk =>
    (css_cons (cs_setO 1 sc_law.nd (ceo_call (as := [.e (eVar 0)]) (ok__law_draws T) hr hgd tk (by decide) (ca_cons (co_val (ce_var 0)) ca_nil)))
    (css_cons (cs_expr (ce_mut0 (i := 1) rfl PySem.F.slot_list_reverse PySem.F.type_list_reverse mt_reverse sx_reverse))
    (css_cons (cs_set 2 sc_law.nd (ce_ix (co_val (ce_own (ceo_lst (ca_cons (co_val ce_int) (ca_cons (co_val ce_int) (ca_cons (co_val ce_int) (ca_cons (co_val ce_int) (ca_cons (co_val ce_int) (ca_cons (co_val ce_int) (ca_cons (co_val ce_int) (ca_cons (co_val ce_int) ca_nil))))))))))) (co_val (ce_bin op_mod sr_mod (co_val (ce_callTy cr_int sc_int T.b_int bt_int (ca_cons (co_val (ce_call (as := [.s 1]) (ok__law_next T) hr hgd tk (by decide) (ca_cons (co_slot 1) ca_nil))) ca_nil))) (co_val ce_int)))))
    (css_cons (cs_set 3 sc_law.nd (ce_call (as := [.s 1, .e (eVar 2), .e (eCst (.int 4))]) (ok__law_machine T) hr hgd tk (by decide) (ca_cons (co_slot 1) (ca_cons (co_val (ce_var 2)) (ca_cons (co_val ce_int) ca_nil)))))
    (css_cons (cs_set 4 sc_law.nd (ce_call (as := [.s 1, .e (eVar 2), .e (eCst (.int 8))]) (ok__law_text T) hr hgd tk (by decide) (ca_cons (co_slot 1) (ca_cons (co_val (ce_var 2)) (ca_cons (co_val ce_int) ca_nil)))))
    (css_cons (cs_asg (ce_call (as := [.e (eVar 3), .e (eCst (.int 0)), .e (eVar 4)]) (ok__law_walked T) hr hgd tk (by decide) (ca_cons (co_val (ce_var 3)) (ca_cons (co_val ce_int) (ca_cons (co_val (ce_var 4)) ca_nil)))) (cg_two2 (K := K) (ms := ms_law) 5 6 sc_law.nd))
    (css_cons (cs_set 7 sc_law.nd (ce_own (ceo_lst (ca_cons (co_val (ce_call (as := [.e (eVar 3), .e (eVar 4)]) (ok__law_form T) hr hgd tk (by decide) (ca_cons (co_val (ce_var 3)) (ca_cons (co_val (ce_var 4)) ca_nil)))) (ca_cons (co_val (ce_bin or_add4 sr_add4 (co_val (ce_ix (co_val (ce_var 3)) (co_val ce_int))) (co_val (ce_var 5)))) (ca_cons (co_val (ce_var 6)) ca_nil))))))
    (css_cons (cs_set 8 sc_law.nd (ce_ix (co_val (ce_own (ceo_lst (ca_cons (co_val (ce_tup (ca_cons (co_val ce_int) (ca_cons (co_val (ce_ix (co_val (ce_var 3)) (co_val ce_int))) (ca_cons (co_val (ce_ix (co_val (ce_var 3)) (co_val ce_int))) ca_nil))))) (ca_cons (co_val (ce_tup (ca_cons (co_val (ce_var 2)) (ca_cons (co_val ce_str) (ca_cons (co_val (ce_ix (co_val (ce_var 3)) (co_val ce_int))) ca_nil))))) (ca_cons (co_val (ce_tup (ca_cons (co_val (ce_var 2)) (ca_cons (co_val ce_str) (ca_cons (co_val (ce_tup ca_nil)) ca_nil))))) ca_nil)))))) (co_val (ce_bin op_mod sr_mod (co_val (ce_callTy cr_int sc_int T.b_int bt_int (ca_cons (co_val (ce_call (as := [.s 1]) (ok__law_next T) hr hgd tk (by decide) (ca_cons (co_slot 1) ca_nil))) ca_nil))) (co_val ce_int)))))
    (css_cons (cs_set 9 sc_law.nd (ce_ix (co_val (ce_own (ceo_lst (ca_cons (co_val (ce_bin or_add4 sr_add4 (co_val (ce_var 4)) (co_val (ce_ix (co_val ce_str) (co_val (ce_var 2)))))) (ca_cons (co_val (ce_bin or_mul5 sr_mul5 (co_val ce_str) (co_val ce_int))) (ca_cons (co_val (ce_bin or_add4 sr_add4 (co_val ce_str) (co_val (ce_var 4)))) ca_nil)))))) (co_val (ce_bin op_mod sr_mod (co_val (ce_callTy cr_int sc_int T.b_int bt_int (ca_cons (co_val (ce_call (as := [.s 1]) (ok__law_next T) hr hgd tk (by decide) (ca_cons (co_slot 1) ca_nil))) ca_nil))) (co_val ce_int)))))
    (css_cons (cs_for (passes_of rfl) rfl (ci_rng1 T.b_range (ca_cons (co_val ce_int) ca_nil)) (cg_name (ms := ms_law) 10 sc_law.nd) (css_cons (cs_if (ct_cmp (or_ne hr.units) sr_ne (nomark _) (co_val (ce_callB (cr_repr hgd hr.units) sc_repr T.b_repr bt_repr (ca_cons (co_val (ce_call (as := [.e (eVar 10), .e (eVar 3), .e (eVar 4)]) (ok__law_told T) hr hgd tk (by decide) (ca_cons (co_val (ce_var 10)) (ca_cons (co_val (ce_var 3)) (ca_cons (co_val (ce_var 4)) ca_nil))))) ca_nil))) (co_val (ce_callB (cr_repr hgd hr.units) sc_repr T.b_repr bt_repr (ca_cons (co_val (ce_ix (co_val (ce_var 7)) (co_val (ce_var 10)))) ca_nil)))) (css_one (cs_ret ce_bl)) css_nil)
    (css_cons (cs_if (ct_of (cw_or (ct_cmp (or_ne hr.units) sr_ne (nomark _) (co_val (ce_call (as := [.e (eVar 10), .e (eVar 8), .e (eVar 9)]) (ok__law_told T) hr hgd tk (by decide) (ca_cons (co_val (ce_var 10)) (ca_cons (co_val (ce_var 8)) (ca_cons (co_val (ce_var 9)) ca_nil))))) (co_val ce_str)) (cw_or1 (ct_cmp (or_ne hr.units) sr_ne (nomark _) (co_val (ce_call (as := [.e (eVar 10), .e (eVar 3), .e (eVar 9)]) (ok__law_told T) hr hgd tk (by decide) (ca_cons (co_val (ce_var 10)) (ca_cons (co_val (ce_var 3)) (ca_cons (co_val (ce_var 9)) ca_nil))))) (co_val ce_str))))) (css_one (cs_ret ce_bl)) css_nil)
    (css_one (cs_if (ct_of (cw_and (ct_cmp or_lt sr_lt (nomark _) (co_val (ce_var 10)) (co_val ce_int)) (cw_and1 (ct_not (ct_tru (co_val (ce_inst (co_val (ce_call (as := [.e (eVar 10), .e (eVar 3), .e (eBin dMul5 (oVal (eCst (.str "a"))) (oVal (eCst (.int 60))))]) (ok__law_told T) hr hgd tk (by decide) (ca_cons (co_val (ce_var 10)) (ca_cons (co_val (ce_var 3)) (ca_cons (co_val (ce_bin or_mul5 sr_mul5 (co_val ce_str) (co_val ce_int))) ca_nil))))) T.b_isinstance T.b_str (by rfl)))))))) (css_one (cs_ret ce_bl)) css_nil)))))
    (css_cons (cs_set 11 sc_law.nd (ce_bin op_mod sr_mod (co_val (ce_callTy cr_int sc_int T.b_int bt_int (ca_cons (co_val (ce_call (as := [.s 1]) (ok__law_next T) hr hgd tk (by decide) (ca_cons (co_slot 1) ca_nil))) ca_nil))) (co_val ce_int)))
    (css_cons (cs_if (ct_of (cw_or (ct_cmp or_lt sr_lt (nomark _) (co_val (ce_var 11)) (co_val ce_int)) (cw_or1 (ct_cmp or_gt sr_gt (nomark _) (co_val (ce_var 11)) (co_val ce_int))))) (css_one (cs_ret (ce_cmp (or_eq hr.units) sr_eq (nomark _) (co_val (ce_call (as := [.e (eVar 11)]) (ok__law_still T) hr hgd tk (by decide) (ca_cons (co_val (ce_var 11)) ca_nil))) (co_val ce_str)))) css_nil)
    (css_cons (cs_set 12 sc_law.nd (ce_call (as := [.e (eVar 11)]) (ok__law_still T) hr hgd tk (by decide) (ca_cons (co_val (ce_var 11)) ca_nil)))
    (css_cons (cs_if (ct_cmp (or_ne hr.units) sr_ne (nomark _) (co_val (ce_var 12)) (co_val (ce_tup (ca_cons (co_val (ce_var 11)) (ca_cons (co_val ce_str) (ca_cons (co_val (ce_tup (ca_cons (co_val (ce_tup (ca_cons (co_val ce_str) (ca_cons (co_val (ce_callTy call_tuple_of sc_tuple T.b_tuple bt_tuple (ca_cons (co_val (ce_own (ceo_lc (own := [("_law_j", 14)]) rfl sc_law.nd (ci_rng1 T.b_range (ca_cons (co_val (ce_var 11)) ca_nil)) (blkOk_by (N := N_law) (sc := defScope st_law) (by decide +kernel)) (fun _ _ _ _ _ => (cg_name (ms := ms_law) 14 sc_law.nd)) (fun _ _ _ _ _ => cts_nil) (fun _ _ _ _ _ => (ce_tup (ca_cons (co_val (ce_ix (co_val ce_str) (co_val (ce_var 14)))) (ca_cons (co_val ce_int) ca_nil))))))) ca_nil))) ca_nil)))) ca_nil))) ca_nil)))))) (css_one (cs_ret ce_bl)) css_nil)
    (css_cons (cs_set 13 sc_law.nd (ce_call (as := [.s 1, .e (eVar 11), .e (eCst (.int 9))]) (ok__law_text T) hr hgd tk (by decide) (ca_cons (co_slot 1) (ca_cons (co_val (ce_var 11)) (ca_cons (co_val ce_int) ca_nil)))))
    (css_one (cs_ret (ce_cmp (or_eq hr.units) sr_eq (nomark _) (co_val (ce_call (as := [.e (eVar 12), .e (eVar 13)]) (ok_form T) hr hgd tk (by decide) (ca_cons (co_val (ce_var 12)) (ca_cons (co_val (ce_var 13)) ca_nil)))) (co_val (ce_var 13))))))))))))))))))))
end
/-! the head -/
def fn : List He.DefD := [⟨("check_size", none), "check_size", "check_size", defArgs st_check_size, defBody st_check_size, defScope st_check_size, [], []⟩, ⟨("has_letters", none), "has_letters", "has_letters", defArgs st_has_letters, defBody st_has_letters, defScope st_has_letters, [], []⟩, ⟨("walked", none), "walked", "walked", defArgs st_walked, defBody st_walked, defScope st_walked, [], []⟩, ⟨("_law_number", none), "_law_number", "_law_number", defArgs st__law_number, defBody st__law_number, defScope st__law_number, [], []⟩, ⟨("_law_next", none), "_law_next", "_law_next", defArgs st__law_next, defBody st__law_next, defScope st__law_next, [], []⟩, ⟨("_law_walked", none), "_law_walked", "_law_walked", defArgs st__law_walked, defBody st__law_walked, defScope st__law_walked, [], []⟩, ⟨("_law_kind", none), "_law_kind", "_law_kind", defArgs st__law_kind, defBody st__law_kind, defScope st__law_kind, [], []⟩, ⟨("is_word", none), "is_word", "is_word", defArgs st_is_word, defBody st_is_word, defScope st_is_word, [], []⟩, ⟨("is_string", none), "is_string", "is_string", defArgs st_is_string, defBody st_is_string, defScope st_is_string, [], []⟩, ⟨("changed", none), "changed", "changed", defArgs st_changed, defBody st_changed, defScope st_changed, [], []⟩, ⟨("still", none), "still", "still", defArgs st_still, defBody st_still, defScope st_still, [], []⟩, ⟨("_law_draws", none), "_law_draws", "_law_draws", defArgs st__law_draws, defBody st__law_draws, defScope st__law_draws, [], []⟩, ⟨("_law_text", none), "_law_text", "_law_text", defArgs st__law_text, defBody st__law_text, defScope st__law_text, [], []⟩, ⟨("_law_form", none), "_law_form", "_law_form", defArgs st__law_form, defBody st__law_form, defScope st__law_form, [], []⟩, ⟨("check_word", none), "check_word", "check_word", defArgs st_check_word, defBody st_check_word, defScope st_check_word, [], []⟩, ⟨("is_row", none), "is_row", "is_row", defArgs st_is_row, defBody st_is_row, defScope st_is_row, [], []⟩, ⟨("_law_out", none), "_law_out", "_law_out", defArgs st__law_out, defBody st__law_out, defScope st__law_out, [], []⟩, ⟨("_law_still", none), "_law_still", "_law_still", defArgs st__law_still, defBody st__law_still, defScope st__law_still, [], []⟩, ⟨("is_formed", none), "is_formed", "is_formed", defArgs st_is_formed, defBody st_is_formed, defScope st_is_formed, [], []⟩, ⟨("_law_machine", none), "_law_machine", "_law_machine", defArgs st__law_machine, defBody st__law_machine, defScope st__law_machine, [], []⟩, ⟨("is_wide", none), "is_wide", "is_wide", defArgs st_is_wide, defBody st_is_wide, defScope st_is_wide, [], []⟩, ⟨("check_wide", none), "check_wide", "check_wide", defArgs st_check_wide, defBody st_check_wide, defScope st_check_wide, [], []⟩, ⟨("check_call", none), "check_call", "check_call", defArgs st_check_call, defBody st_check_call, defScope st_check_call, [], []⟩, ⟨("form", none), "form", "form", defArgs st_form, defBody st_form, defScope st_form, [], []⟩, ⟨("written", none), "written", "written", defArgs st_written, defBody st_written, defScope st_written, [], []⟩, ⟨("state_behind", none), "state_behind", "state_behind", defArgs st_state_behind, defBody st_state_behind, defScope st_state_behind, [], []⟩, ⟨("_law_told", none), "_law_told", "_law_told", defArgs st__law_told, defBody st__law_told, defScope st__law_told, [], []⟩, ⟨("law", none), "law", "law", defArgs st_law, defBody st_law, defScope st_law, [], []⟩]
def fa : List He.Fa := [.glo "check_size", .glo "has_letters", .glo "walked", .glo "_law_number", .glo "_law_next", .glo "_law_walked", .glo "_law_kind", .glo "is_word", .glo "is_string", .glo "changed", .glo "still", .glo "_law_draws", .glo "_law_text", .glo "_law_form", .glo "check_word", .glo "is_row", .glo "_law_out", .glo "_law_still", .glo "is_formed", .glo "_law_machine", .glo "is_wide", .glo "check_wide", .glo "check_call", .glo "form", .glo "written", .glo "state_behind", .glo "_law_told", .glo "law", .free "len", .free "all", .free "isinstance", .free "tuple", .free "range", .free "int", .free "repr", .free "str", .str "LETTERS" "abcdef", .int "MOST_LETTERS" 60, .int "LONGEST" 60, .int "MOST_WIDE" 2000, .glo "BadNumber", .exc "BadNumber", .glo "NotWord", .exc "NotWord", .glo "NotMachine", .exc "NotMachine", .glo "NotRule", .exc "NotRule", .glo "TooLarge", .exc "TooLarge", .glo "ShiftError", .exc "ShiftError", .exm "BadNumber" "ShiftError" true, .exm "NotWord" "ShiftError" true, .exm "NotMachine" "ShiftError" true]
def xs : List (PySem.W.Frag → Bool) := [nolst, excCB "BadNumber", excCB "NotWord", excCB "NotMachine", kitCB "BadNumber" "NotMachine" false, kitCB "NotWord" "NotMachine" false, kitCB "NotMachine" "NotMachine" true, kitCB "BadNumber" "NotWord" false, kitCB "NotWord" "NotWord" true, kitCB "NotMachine" "NotWord" false, kitCB "BadNumber" "NotRule" false, kitCB "NotWord" "NotRule" false, kitCB "NotMachine" "NotRule" false, kitCB "BadNumber" "BadNumber" true, kitCB "NotWord" "BadNumber" false, kitCB "NotMachine" "BadNumber" false, kitCB "BadNumber" "TooLarge" false, kitCB "NotWord" "TooLarge" false, kitCB "NotMachine" "TooLarge" false, kitCB "BadNumber" "ShiftError" true, kitCB "NotWord" "ShiftError" true, kitCB "NotMachine" "ShiftError" true]
def names : List Str := (["ShiftError", "NotWord", "NotRule", "NotMachine", "BadNumber", "TooLarge", "LETTERS", "MOST_LETTERS", "check_size", "has_letters", "is_word", "check_word", "MOST_WIDE", "LONGEST", "is_string", "is_row", "is_formed", "is_wide", "check_wide", "walked", "changed", "check_call", "form", "written", "state_behind", "still", "_law_number", "_law_draws", "_law_next", "_law_text"] : List Str) ++ (["_law_walked", "_law_form", "_law_out", "_law_machine", "_law_kind", "_law_told", "_law_still"] : List Str)
abbrev Rw : PySem.W.OpenRow := PySem.W.OpenLaw.row PySem.Challenge.rw_soundturns_k21_forms_of_words
abbrev hk : PySem.W.Hook := hookX 4 fa fn xs
def ob (s : PySem.W.SharedT) : AlX := obsXG 4 fa fn xs (HandSHeadRun.getT s)
theorem ob_eq (s : PySem.W.SharedT) : ob s = hk.obs s.abs := obsXG_eq (HandSHeadRun.getT_eq s)
set_option maxHeartbeats 0 in
theorem run (w : World) : HandSHeadRun.RunEq Rw (PySem.W.view Rw.prog [41]) hk ob 4000 names w := by
  intro os
  kernel_rfl
theorem txt {K : PySem.W.Frag} {h : Heap} {mg : Str → Option Value} (X : K.In h) (G : h.Ns mainGlobals mg) (c : SaysX fa fn xs K) : Txt K mg :=
  ⟨⟨He.glo_ok X G (c.d.fact 0), c.d.def_ 0⟩,
    ⟨He.glo_ok X G (c.d.fact 1), c.d.def_ 1⟩,
    ⟨He.glo_ok X G (c.d.fact 2), c.d.def_ 2⟩,
    ⟨He.glo_ok X G (c.d.fact 3), c.d.def_ 3⟩,
    ⟨He.glo_ok X G (c.d.fact 4), c.d.def_ 4⟩,
    ⟨He.glo_ok X G (c.d.fact 5), c.d.def_ 5⟩,
    ⟨He.glo_ok X G (c.d.fact 6), c.d.def_ 6⟩,
    ⟨He.glo_ok X G (c.d.fact 7), c.d.def_ 7⟩,
    ⟨He.glo_ok X G (c.d.fact 8), c.d.def_ 8⟩,
    ⟨He.glo_ok X G (c.d.fact 9), c.d.def_ 9⟩,
    ⟨He.glo_ok X G (c.d.fact 10), c.d.def_ 10⟩,
    ⟨He.glo_ok X G (c.d.fact 11), c.d.def_ 11⟩,
    ⟨He.glo_ok X G (c.d.fact 12), c.d.def_ 12⟩,
    ⟨He.glo_ok X G (c.d.fact 13), c.d.def_ 13⟩,
    ⟨He.glo_ok X G (c.d.fact 14), c.d.def_ 14⟩,
    ⟨He.glo_ok X G (c.d.fact 15), c.d.def_ 15⟩,
    ⟨He.glo_ok X G (c.d.fact 16), c.d.def_ 16⟩,
    ⟨He.glo_ok X G (c.d.fact 17), c.d.def_ 17⟩,
    ⟨He.glo_ok X G (c.d.fact 18), c.d.def_ 18⟩,
    ⟨He.glo_ok X G (c.d.fact 19), c.d.def_ 19⟩,
    ⟨He.glo_ok X G (c.d.fact 20), c.d.def_ 20⟩,
    ⟨He.glo_ok X G (c.d.fact 21), c.d.def_ 21⟩,
    ⟨He.glo_ok X G (c.d.fact 22), c.d.def_ 22⟩,
    ⟨He.glo_ok X G (c.d.fact 23), c.d.def_ 23⟩,
    ⟨He.glo_ok X G (c.d.fact 24), c.d.def_ 24⟩,
    ⟨He.glo_ok X G (c.d.fact 25), c.d.def_ 25⟩,
    ⟨He.glo_ok X G (c.d.fact 26), c.d.def_ 26⟩,
    ⟨He.glo_ok X G (c.d.fact 27), c.d.def_ 27⟩,
    He.free_ok X G (c.d.fact 28),
    He.free_ok X G (c.d.fact 29),
    He.free_ok X G (c.d.fact 30),
    He.free_ok X G (c.d.fact 31),
    He.free_ok X G (c.d.fact 32),
    He.free_ok X G (c.d.fact 33),
    He.free_ok X G (c.d.fact 34),
    He.free_ok X G (c.d.fact 35),
    He.str_ok X G (c.d.fact 36),
    He.int_ok X G (c.d.fact 37),
    He.int_ok X G (c.d.fact 38),
    He.int_ok X G (c.d.fact 39),
    ec_of X G (c.d.fact 40) (c.d.fact 41),
    ec_of X G (c.d.fact 42) (c.d.fact 43),
    ec_of X G (c.d.fact 44) (c.d.fact 45),
    ec_of X G (c.d.fact 46) (c.d.fact 47),
    ec_of X G (c.d.fact 48) (c.d.fact 49),
    ec_of X G (c.d.fact 50) (c.d.fact 51),
    He.exm_ok (c.d.fact 52),
    He.exm_ok (c.d.fact 53),
    He.exm_ok (c.d.fact 54),
    excC_of (x := "BadNumber") (c.x xs[1] (List.getElem_mem (by decide))),
    excC_of (x := "NotWord") (c.x xs[2] (List.getElem_mem (by decide))),
    excC_of (x := "NotMachine") (c.x xs[3] (List.getElem_mem (by decide))),
    kit_of' (x := "BadNumber") (y := "NotMachine") (b := false) (c.x xs[4] (List.getElem_mem (by decide))),
    kit_of' (x := "NotWord") (y := "NotMachine") (b := false) (c.x xs[5] (List.getElem_mem (by decide))),
    kit_of' (x := "NotMachine") (y := "NotMachine") (b := true) (c.x xs[6] (List.getElem_mem (by decide))),
    kit_of' (x := "BadNumber") (y := "NotWord") (b := false) (c.x xs[7] (List.getElem_mem (by decide))),
    kit_of' (x := "NotWord") (y := "NotWord") (b := true) (c.x xs[8] (List.getElem_mem (by decide))),
    kit_of' (x := "NotMachine") (y := "NotWord") (b := false) (c.x xs[9] (List.getElem_mem (by decide))),
    kit_of' (x := "BadNumber") (y := "NotRule") (b := false) (c.x xs[10] (List.getElem_mem (by decide))),
    kit_of' (x := "NotWord") (y := "NotRule") (b := false) (c.x xs[11] (List.getElem_mem (by decide))),
    kit_of' (x := "NotMachine") (y := "NotRule") (b := false) (c.x xs[12] (List.getElem_mem (by decide))),
    kit_of' (x := "BadNumber") (y := "BadNumber") (b := true) (c.x xs[13] (List.getElem_mem (by decide))),
    kit_of' (x := "NotWord") (y := "BadNumber") (b := false) (c.x xs[14] (List.getElem_mem (by decide))),
    kit_of' (x := "NotMachine") (y := "BadNumber") (b := false) (c.x xs[15] (List.getElem_mem (by decide))),
    kit_of' (x := "BadNumber") (y := "TooLarge") (b := false) (c.x xs[16] (List.getElem_mem (by decide))),
    kit_of' (x := "NotWord") (y := "TooLarge") (b := false) (c.x xs[17] (List.getElem_mem (by decide))),
    kit_of' (x := "NotMachine") (y := "TooLarge") (b := false) (c.x xs[18] (List.getElem_mem (by decide))),
    kit_of' (x := "BadNumber") (y := "ShiftError") (b := true) (c.x xs[19] (List.getElem_mem (by decide))),
    kit_of' (x := "NotWord") (y := "ShiftError") (b := true) (c.x xs[20] (List.getElem_mem (by decide))),
    kit_of' (x := "NotMachine") (y := "ShiftError") (b := true) (c.x xs[21] (List.getElem_mem (by decide)))⟩
end Lw
end

section
open PySem PySem.W PySem.Calls PyProof.Rows
set_option maxHeartbeats 0 in
theorem PySem.Challenge.cw_soundturns_k21_forms_of_words_holds : PySem.Challenge.rw_soundturns_k21_forms_of_words.Holds := by
  w_on; o_law
  refine HandSHeadRun.head_any (r := OpenLaw.row PySem.Challenge.rw_soundturns_k21_forms_of_words) (q := view (OpenLaw.row PySem.Challenge.rw_soundturns_k21_forms_of_words).prog [41]) (H := Lw.hk) (ob := Lw.ob) (M := 4000) (loose := Lw.names) (d := HandSHeadRun.topDef (OpenLaw.row PySem.Challenge.rw_soundturns_k21_forms_of_words).prog 41) (kwd := []) Lw.ob_eq
    (by kernel_rfl) (fun s => by kernel_rfl) Lw.run (by kernel_rfl) (by kernel_rfl) (by kernel_rfl) (by rfl) (by first | assumption | decide +kernel) (by decide +kernel) ⟨rfl, rfl, rfl, rfl, rfl, by decide +kernel⟩ ?hw ?hc
  case hw => w_witness2
  case hc =>
    refine DL.walk_ofG (l := PySem.Challenge.rw_soundturns_k21_forms_of_words) (n := 63) (k := 10) (x := "_law_script") (pm := Lw.pm_law) (F := Lw.F_law) rfl (by decide) (by kernel_rfl) ⟨rfl, by decide, by decide⟩ rfl ?F Lw.law_true
    intro w mg fa h Y G hmg0
    obtain ⟨K, KX, c⟩ := Y
    have hmg : mg ("law" : PySem.Str) = some (.ref fa) := by
      have e : (HandSHeadRun.topDef (OpenLaw.row PySem.Challenge.rw_soundturns_k21_forms_of_words).prog 41).name = ("law" : PySem.Str) := by kernel_rfl
      rw [← e]
      exact hmg0
    have T := Lw.txt KX G c
    have e := hmg.symm.trans T.d_law.1
    cases e
    obtain ⟨fd, F⟩ := T.d_law.2
    refine ⟨K, fd, KX, c.x _ List.mem_cons_self, fun s v => L2.FunD.bindsA (ps := ["_law_script"]) F (fun _ _ _ _ _ _ us hl => match us, hl with | [_], _ => rfl) s [v] rfl, fun base hb hg => ?_⟩
    exact Lw.fn_law F T
end
