import PyProof.Rows.All
import Wide.All
import OpenK.AllK
import Wide.FinOn
import KE.KStateDown
import Lean
import KE.KDictKeyed
import KE.KeyNested
import KE.KTupTabMore
import HandS.ForMost
import HandS.Exc
import HandS.TryOnly
import HandS.ExcOwn
import HandS.WordsExc
import HandS.Walk
import HandS.Deep
import HandS.Flow
import HandS.RaiseOp
import HandS.Defaults
import HandS.More
import HandS.Head0
import HandS.Head1
import HandS.Head2
import HandS.HeadEnd
import HandS.HeadHook1
import HandS.HeadHook2
import HandS.ExcIs
import HandS.IsInst
import HandS.Text
import HandS.TupAny
import HandS.TupMul
import HandS.Replace
import HandS.Sort
import HandS.Style
import HandS.HotCalls
import HandS.Set
import HandS.SetFor
import HandS.SortInts
import PyProof.CollectStr
import PyProof.ListStr
import PyProof.Rows.SortShellAny
import HandS.Zip
import HandS.Zip0
import PyProof.Draws
import PyProof.EnumMake
import KE.KRevSl
import HandS.WideBits
import PyProof.StrLawsFirst
import HandS.Conv
import HandS.MakeKwOnly
import HandS.List
import HandS.TupLen
import HandS.SetKeys
import HandS.DictComp
import KE.KDictWalk
import KE.DataFind
import KE.DataCmp
import KE.SortData
import KE.SortKeyHeap
import HandS.SortKw
import KE.KDictSum
import PySem.Challenge.RW_soundturns_k00_words_and_their_order
set_option Elab.async false
set_option linter.all false
set_option maxRecDepth 100000
section
set_option maxHeartbeats 1000000
namespace DL
open PySem PySem.Spec PyProof.Rows L2

/-! ## data, environments, results -/
abbrev D := PyData
abbrev Rho := List (Option D)
inductive R (α : Type) where
  | ok (a : α) (r : Rho)
  | exc (c : Str) (x : D) (r : Rho)
  | bad
def R.on {α : Type} (r : R α) (A : α → Rho → Prop) (B : Str → D → Rho → Prop) : Prop := match r with
  | .ok a r => A a r
  | .exc c x r => B c x r
  | .bad => False
def R.bind {α β : Type} (r : R α) (k : α → Rho → R β) : R β := match r with
  | .ok a r => k a r
  | .exc c x r => .exc c x r
  | .bad => .bad
theorem on_bind {α β : Type} {r : R α} {k : α → Rho → R β} {A : β → Rho → Prop} {B : Str → D → Rho → Prop} : (r.bind k).on A B = r.on (fun a r => (k a r).on A B) B := by cases r <;> rfl
theorem R.on.mono {α : Type} {r : R α} {A A' : α → Rho → Prop} {B B' : Str → D → Rho → Prop} (h : r.on A B) (ha : ∀ a r, A a r → A' a r) (hb : ∀ c x r, B c x r → B' c x r) : r.on A' B' := by
  cases r with
  | ok a r => exact ha _ _ h
  | exc c x r => exact hb _ _ _ h
  | bad => exact h
def R.ofO {α : Type} (o : Option α) (r : Rho) : R α := match o with
  | some a => .ok a r
  | none => .bad
theorem on_ofO {α : Type} {o : Option α} {r : Rho} {A : α → Rho → Prop} {B : Str → D → Rho → Prop} (h : (R.ofO o r).on A B) : ∃ a, o = some a ∧ A a r := by
  cases o with
  | none => exact False.elim h
  | some a => exact ⟨a, rfl, h⟩

/-! ## masks, what a value stands for -/
open Classical in
noncomputable def msk (H : Hp) (W : Addr → Prop) : Hp := fun a => if W a then none else H a
theorem msk_in {H : Hp} {W : Addr → Prop} {a : Addr} (h : W a) : msk H W a = none := if_pos h
theorem msk_out {H : Hp} {W : Addr → Prop} {a : Addr} (h : ¬ W a) : msk H W a = H a := if_neg h
theorem msk_some {H : Hp} {W : Addr → Prop} {a : Addr} {o : HO} (h : msk H W a = some o) : ¬ W a ∧ H a = some o := by
  by_cases q : W a
  · rw [msk_in q] at h; cases h
  · rw [msk_out q] at h; exact ⟨q, h⟩
theorem msk_mk {H : Hp} {W : Addr → Prop} {a : Addr} {o : HO} (h : ¬ W a) (e : H a = some o) : msk H W a = some o := by rw [msk_out h, e]
theorem msk_sub {H : Hp} {W : Addr → Prop} : Same (msk H W) H := fun _ _ h => (msk_some h).2
theorem msk_same {H H' : Hp} {W : Addr → Prop} (s : Same H H') : Same (msk H W) (msk H' W) := fun a o h => msk_mk (msk_some h).1 (s a o (msk_some h).2)
theorem msk_less {H : Hp} {W W' : Addr → Prop} (s : ∀ a, W' a → W a) : Same (msk H W) (msk H W') := fun a o h => msk_mk (fun z => (msk_some h).1 (s a z)) (msk_some h).2
theorem Same.tup {K : PySem.W.Frag} {H H' : Hp} {a : Addr} {xs : List V} (e : Same H H') (h : SqT K H a xs) : SqT K H' a xs := by
  rcases h with (h | ⟨o, h⟩) | h
  · exact .inl (.inl (e _ _ h))
  · exact .inl (.inr ⟨o, e _ _ h⟩)
  · exact .inr h
theorem Same.rd {H H' : Hp} {a : Addr} {u : HO} (e : Same H H') (h : Rd H a u) : Rd H' a u := by
  rcases h with h | ⟨o, h⟩
  · exact .inl (e _ _ h)
  · exact .inr ⟨o, e _ _ h⟩
mutual
inductive Rep (K : PySem.W.Frag) (H : Hp) : V → D → Prop
  | non : Rep K H .non .none
  | bl (b : Bool) : Rep K H (.bl b) (.bool b)
  | int (i : Int) : Rep K H (.int i) (.int i)
  | str (x : Str) : Rep K H (.str x) (.str x)
  | lst {a : Addr} {xs : List V} {ds : List D} : Rd H a (.lst xs) → RepAll K H xs ds → Rep K H (.ref a) (.list ds)
  | tup {a : Addr} {xs : List V} {ds : List D} : SqT K H a xs → RepAll K H xs ds → Rep K H (.ref a) (.tuple ds)
inductive RepAll (K : PySem.W.Frag) (H : Hp) : List V → List D → Prop
  | nil : RepAll K H [] []
  | cons {v : V} {vs : List V} {d : D} {ds : List D} : Rep K H v d → RepAll K H vs ds → RepAll K H (v :: vs) (d :: ds)
end
section
variable {w : World} {K : PySem.W.Frag} {H H' : Hp}
mutual
theorem Rep.mono (s : Same H H') : ∀ {v : V} {d : D}, Rep K H v d → Rep K H' v d
  | _, _, .non => .non
  | _, _, .bl b => .bl b
  | _, _, .int i => .int i
  | _, _, .str x => .str x
  | _, _, .lst h a => .lst (DL.Same.rd s h) (RepAll.mono s a)
  | _, _, .tup h a => .tup (DL.Same.tup s h) (RepAll.mono s a)
theorem RepAll.mono (s : Same H H') : ∀ {vs : List V} {ds : List D}, RepAll K H vs ds → RepAll K H' vs ds
  | _, _, .nil => .nil
  | _, _, .cons a b => .cons (Rep.mono s a) (RepAll.mono s b)
end
mutual
theorem Rep.dp : ∀ {v : V} {d : D}, Rep K H v d → Dp K H v d
  | _, _, .non => .non
  | _, _, .bl b => .bl b
  | _, _, .int i => .int i
  | _, _, .str x => .str x
  | _, _, .lst h a => .lst (.inl h) (RepAll.dp a)
  | _, _, .tup h a => .tup h (RepAll.dp a)
theorem RepAll.dp : ∀ {vs : List V} {ds : List D}, RepAll K H vs ds → DpAll K H vs ds
  | _, _, .nil => .nil
  | _, _, .cons a b => .cons (Rep.dp a) (RepAll.dp b)
end
theorem RepAll.len : ∀ {vs : List V} {ds : List D}, RepAll K H vs ds → vs.length = ds.length
  | _, _, .nil => rfl
  | _, _, .cons _ b => congrArg Nat.succ (RepAll.len b)
theorem RepAll.get : ∀ {vs : List V} {ds : List D} {i : Nat} {d : D}, RepAll K H vs ds → ds[i]? = some d → ∃ v, vs[i]? = some v ∧ Rep K H v d
  | _, _, _, _, .nil, e => by simp at e
  | _, _, 0, _, .cons r _, e => by simp at e; subst e; exact ⟨_, rfl, r⟩
  | _, _, i + 1, d, .cons _ t, e => by
    obtain ⟨v, h1, h2⟩ := RepAll.get (i := i) (d := d) t (by simpa using e)
    exact ⟨v, by simpa using h1, h2⟩
theorem RepAll.get' : ∀ {vs : List V} {ds : List D} {i : Nat} {v : V}, RepAll K H vs ds → vs[i]? = some v → ∃ d, ds[i]? = some d ∧ Rep K H v d
  | _, _, _, _, .nil, e => by simp at e
  | _, _, 0, _, .cons r _, e => by simp at e; subst e; exact ⟨_, rfl, r⟩
  | _, _, i + 1, v, .cons _ t, e => by
    obtain ⟨d, h1, h2⟩ := RepAll.get' (i := i) (v := v) t (by simpa using e)
    exact ⟨d, by simpa using h1, h2⟩
theorem RepAll.append : ∀ {vs ws : List V} {ds es : List D}, RepAll K H vs ds → RepAll K H ws es → RepAll K H (vs ++ ws) (ds ++ es)
  | _, _, _, _, .nil, b => b
  | _, _, _, _, .cons a t, b => .cons a (RepAll.append t b)
theorem RepAll.drop : ∀ {vs : List V} {ds : List D} (n : Nat), RepAll K H vs ds → RepAll K H (vs.drop n) (ds.drop n)
  | _, _, 0, r => r
  | _, _, n + 1, .nil => .nil
  | _, _, n + 1, .cons _ t => RepAll.drop n t
theorem RepAll.take : ∀ {vs : List V} {ds : List D} (n : Nat), RepAll K H vs ds → RepAll K H (vs.take n) (ds.take n)
  | _, _, 0, _ => .nil
  | _, _, _ + 1, .nil => .nil
  | _, _, n + 1, .cons a t => .cons a (RepAll.take n t)
theorem RepAll.reverse : ∀ {vs : List V} {ds : List D}, RepAll K H vs ds → RepAll K H vs.reverse ds.reverse
  | _, _, .nil => .nil
  | _, _, .cons a t => by rw [List.reverse_cons, List.reverse_cons]; exact (RepAll.reverse t).append (.cons a .nil)
theorem RepAll.set : ∀ {vs : List V} {ds : List D} {v : V} {d : D} (i : Nat), RepAll K H vs ds → Rep K H v d → RepAll K H (vs.set i v) (ds.set i d)
  | _, _, _, _, _, .nil, _ => .nil
  | _, _, _, _, 0, .cons _ t, r => .cons r t
  | _, _, _, _, n + 1, .cons a t, r => .cons a (RepAll.set n t r)
theorem RepAll.eraseIdx : ∀ {vs : List V} {ds : List D} (i : Nat), RepAll K H vs ds → RepAll K H (vs.eraseIdx i) (ds.eraseIdx i)
  | _, _, _, .nil => .nil
  | _, _, 0, .cons _ t => t
  | _, _, n + 1, .cons a t => .cons a (RepAll.eraseIdx n t)
theorem RepAll.rep {vs : List V} {ds : List D} (h : RepAll K H vs ds) : ∀ k : Nat, RepAll K H (List.replicate k vs).flatten (List.replicate k ds).flatten
  | 0 => .nil
  | k + 1 => by rw [List.replicate_succ, List.replicate_succ, List.flatten_cons, List.flatten_cons]; exact h.append (h.rep k)
theorem repInts : ∀ (ns : List Int), RepAll K H (ns.map V.int) (ns.map PyData.int)
  | [] => .nil
  | n :: ns => .cons (.int n) (repInts ns)
theorem Rep.strI {v : V} {x : Str} (h : Rep K H v (.str x)) : v = .str x := by cases h; rfl
theorem Rep.intI {v : V} {x : Int} (h : Rep K H v (.int x)) : v = .int x := by cases h; rfl
theorem Rep.blI {v : V} {x : Bool} (h : Rep K H v (.bool x)) : v = .bl x := by cases h; rfl
theorem Rep.nonI {v : V} (h : Rep K H v .none) : v = .non := by cases h; rfl
theorem Rep.lstI {v : V} {ds : List D} (h : Rep K H v (.list ds)) : ∃ a xs, v = .ref a ∧ Rd H a (.lst xs) ∧ RepAll K H xs ds := by cases h; exact ⟨_, _, rfl, by assumption, by assumption⟩
theorem Rep.tupI {v : V} {ds : List D} (h : Rep K H v (.tuple ds)) : ∃ a xs, v = .ref a ∧ SqT K H a xs ∧ RepAll K H xs ds := by cases h; exact ⟨_, _, rfl, by assumption, by assumption⟩
theorem RepAll.strs : ∀ {vs : List V} {ss : List Str}, RepAll K H vs (ss.map PyData.str) → vs = ss.map V.str
  | _, [], h => by cases h; rfl
  | _, s :: ss, h => by
    cases h with
    | cons a b => rw [a.strI, RepAll.strs b]; rfl
theorem RepAll.bls : ∀ {vs : List V} {ss : List Bool}, RepAll K H vs (ss.map PyData.bool) → vs = ss.map V.bl
  | _, [], h => by cases h; rfl
  | _, s :: ss, h => by
    cases h with
    | cons a b => rw [a.blI, RepAll.bls b]; rfl
theorem RepAll.ints : ∀ {vs : List V} {ss : List Int}, RepAll K H vs (ss.map PyData.int) → vs = ss.map V.int
  | _, [], h => by cases h; rfl
  | _, s :: ss, h => by
    cases h with
    | cons a b => rw [a.intI, RepAll.ints b]; rfl
end

/-! ## shapes, modes, the relation -/
/-- what a field of an object may be -/
inductive Fk where
  | pur | lst | dk | dn
  deriving DecidableEq
/-- pur: a value that nobody changes; lst: a list of one's own; dk, dn: a dict of one's own (int and text keys; tuple keys); obj: an instance of one's own -/
inductive Shp where
  | pur | lst | exn (a : Addr) | dk | dn | obj (C : Str) (T : List (Str × Fk))
  deriving DecidableEq
def Shp.ok : Shp → Bool
  | .pur => true
  | .lst => true
  | _ => false
structure Md where
  sh : Shp := .pur
  fx : Bool := false
/-! keys -/
def kD : Key → D
  | .inl i => .int i
  | .inr x => .str x
mutual
def keyOf : D → Option NestedKey
  | .none => some .none
  | .int i => some (.num i)
  | .str x => some (.text x)
  | .tuple ds => (keysOf ds).map .tup
  | _ => none
def keysOf : List D → Option (List NestedKey)
  | [] => some []
  | d :: ds => (keyOf d).bind fun k => (keysOf ds).map (k :: ·)
end
/-- the dict at a whose keys are tuples: the keys, where they stand, the values -/
def DnOk (w : World) (a : Addr) (xs : List (NestedKey × Addr × V)) (h : Heap) : Prop := xs.length ≤ sizeLine ∧ (a == sysModules) = false ∧ (xs.map (·.1)).Nodup ∧
  ∃ ys : List (NestedKey × Addr × Value), Paired (fun p q => p.1 = q.1 ∧ p.2.1 = q.2.1 ∧ RelV p.2.2 q.2.2) xs ys ∧
    ∃ (o : Obj) (es : Array DictEntry) (ep : Nat), h.get? a = some o ∧ o.ExactDict ∧ o.data = .dict es ep ∧ es.toList = ys.map fun y => { hash := y.1.hash w, key := .ref y.2.1, val := y.2.2 }
def dnO (w : World) (a : Addr) (xs : List (NestedKey × Addr × V)) : HO := .ext (DnOk w a xs)
inductive RepKV (K : PySem.W.Frag) (M : Hp) : List (Key × V) → List (D × D) → Prop
  | nil : RepKV K M [] []
  | cons {k : Key} {v : V} {d : D} {l : List (Key × V)} {m : List (D × D)} : Rep K M v d → RepKV K M l m → RepKV K M ((k, v) :: l) ((kD k, d) :: m)
inductive RepNV (K : PySem.W.Frag) (M : Hp) : List (NestedKey × Addr × V) → List (D × D) → Prop
  | nil : RepNV K M [] []
  | cons {k : List NestedKey} {a : Addr} {v : V} {ks : List D} {d : D} {l : List (NestedKey × Addr × V)} {m : List (D × D)} : Rep K M (.ref a) (.tuple ks) → keysOf ks = some k → (NestedKey.tup k).depth ≤ 8 → Rep K M v d → RepNV K M l m → RepNV K M ((.tup k, a, v) :: l) ((.tuple ks, d) :: m)
theorem RepKV.mono {K : PySem.W.Frag} {M M' : Hp} (s : Same M M') : ∀ {l : List (Key × V)} {m : List (D × D)}, RepKV K M l m → RepKV K M' l m
  | _, _, .nil => .nil
  | _, _, .cons a b => .cons (a.mono s) (RepKV.mono s b)
theorem RepNV.mono {K : PySem.W.Frag} {M M' : Hp} (s : Same M M') : ∀ {l : List (NestedKey × Addr × V)} {m : List (D × D)}, RepNV K M l m → RepNV K M' l m
  | _, _, .nil => .nil
  | _, _, .cons a b c d e => .cons (a.mono s) b c (d.mono s) (RepNV.mono s e)
/-- a field's value -/
inductive RepF (w : World) (K : PySem.W.Frag) (M H : Hp) : Fk → V → D → List Addr → Prop
  | pur {v : V} {d : D} : Rep K M v d → RepF w K M H .pur v d []
  | lst {a : Addr} {vs : List V} {ds : List D} : H a = some (.lst vs) → RepAll K M vs ds → RepF w K M H .lst (.ref a) (.list ds) [a]
  | dk {a : Addr} {vs : List (Key × V)} {ds : List (D × D)} : H a = some (.dK vs) → RepKV K M vs ds → RepF w K M H .dk (.ref a) (.dict ds) [a]
  | dn {a : Addr} {vs : List (NestedKey × Addr × V)} {ds : List (D × D)} : H a = some (dnO w a vs) → RepNV K M vs ds → RepF w K M H .dn (.ref a) (.dict ds) [a]
/-- the fields of an instance; T tells what each may be -/
inductive RepFs (w : World) (K : PySem.W.Frag) (M H : Hp) (T : List (Str × Fk)) : List (Str × V) → List (D × D) → List Addr → Prop
  | nil : RepFs w K M H T [] [] []
  | cons {f : Str} {k : Fk} {v : V} {d : D} {A B : List Addr} {fs : List (Str × V)} {ds : List (D × D)} : T.lookup f = some k → RepF w K M H k v d A → RepFs w K M H T fs ds B → (∀ a ∈ A, a ∉ B) → RepFs w K M H T ((f, v) :: fs) ((.str f, d) :: ds) (A ++ B)
inductive RepS (w : World) (K : PySem.W.Frag) (M H : Hp) : Shp → V → D → List Addr → Prop
  | pur {v : V} {d : D} : Rep K M v d → RepS w K M H .pur v d []
  | lst {a : Addr} {vs : List V} {ds : List D} : H a = some (.lst vs) → RepAll K M vs ds → RepS w K M H .lst (.ref a) (.list ds) [a]
  | exn {a : Addr} {c : Str} : RepS w K M H (.exn a) (.ref a) (.dict [(.str c, .none)]) []
  | dk {a : Addr} {vs : List (Key × V)} {ds : List (D × D)} : H a = some (.dK vs) → RepKV K M vs ds → RepS w K M H .dk (.ref a) (.dict ds) [a]
  | dn {a : Addr} {vs : List (NestedKey × Addr × V)} {ds : List (D × D)} : H a = some (dnO w a vs) → RepNV K M vs ds → RepS w K M H .dn (.ref a) (.dict ds) [a]
  | obj {C : Str} {T : List (Str × Fk)} {x dx : Addr} {fs : List (Str × V)} {ds : List (D × D)} {A : List Addr} : H x = some (.ins (He.ga K C) dx fs) → RepFs w K M H T fs ds A → x ∉ A → RepS w K M H (.obj C T) (.ref x) (.dict ds) (x :: A)
section
variable {w : World} {K : PySem.W.Frag} {M M' H H' : Hp}
theorem RepF.tr {k : Fk} {v : V} {d : D} {A : List Addr} (h : RepF w K M H k v d A) : ∀ a ∈ A, H a ≠ none := by
  cases h with
  | pur h => intro a h; cases h
  | lst h r => intro b hb; rw [List.mem_singleton] at hb; rw [hb, h]; exact fun z => by cases z
  | dk h r => intro b hb; rw [List.mem_singleton] at hb; rw [hb, h]; exact fun z => by cases z
  | dn h r => intro b hb; rw [List.mem_singleton] at hb; rw [hb, h]; exact fun z => by cases z
theorem RepFs.tr {T : List (Str × Fk)} : ∀ {fs : List (Str × V)} {ds : List (D × D)} {A : List Addr}, RepFs w K M H T fs ds A → ∀ a ∈ A, H a ≠ none
  | _, _, _, .nil => fun a h => nomatch h
  | _, _, _, .cons _ r t _ => fun a h => (List.mem_append.mp h).elim (r.tr a) (RepFs.tr t a)
theorem RepF.mono {k : Fk} {v : V} {d : D} {A : List Addr} (h : RepF w K M H k v d A) (s : Same M M') (q : ∀ a ∈ A, ∀ o, H a = some o → H' a = some o) : RepF w K M' H' k v d A := by
  cases h with
  | pur h => exact .pur (h.mono s)
  | lst h r => exact .lst (q _ List.mem_cons_self _ h) (r.mono s)
  | dk h r => exact .dk (q _ List.mem_cons_self _ h) (r.mono s)
  | dn h r => exact .dn (q _ List.mem_cons_self _ h) (r.mono s)
theorem RepFs.mono {T : List (Str × Fk)} (s : Same M M') : ∀ {fs : List (Str × V)} {ds : List (D × D)} {A : List Addr}, RepFs w K M H T fs ds A → (∀ a ∈ A, ∀ o, H a = some o → H' a = some o) → RepFs w K M' H' T fs ds A
  | _, _, _, .nil, _ => .nil
  | _, _, _, .cons l r t n, q => .cons l (r.mono s fun a h => q a (List.mem_append_left _ h)) (RepFs.mono s t fun a h => q a (List.mem_append_right _ h)) n
end
theorem RepS.exnI {w : World} {K : PySem.W.Frag} {M H : Hp} {a : Addr} {v : V} {d : D} {A : List Addr} (h : RepS w K M H (.exn a) v d A) : v = .ref a ∧ ∃ c, d = .dict [(.str c, .none)] := by
  cases h with
  | exn => exact ⟨rfl, _, rfl⟩
theorem RepS.tr {w : World} {K : PySem.W.Frag} {M H : Hp} {sh : Shp} {v : V} {d : D} {A : List Addr} (h : RepS w K M H sh v d A) : ∀ a ∈ A, H a ≠ none := by
  cases h with
  | pur h => intro a h; cases h
  | lst h r => intro b hb; rw [List.mem_singleton] at hb; rw [hb, h]; exact fun z => by cases z
  | exn => intro a h; cases h
  | dk h r => intro b hb; rw [List.mem_singleton] at hb; rw [hb, h]; exact fun z => by cases z
  | dn h r => intro b hb; rw [List.mem_singleton] at hb; rw [hb, h]; exact fun z => by cases z
  | obj h r n =>
    intro b hb
    rcases List.mem_cons.mp hb with rfl | hb
    · rw [h]; exact fun z => by cases z
    · exact r.tr b hb
theorem RepS.mono {w : World} {K : PySem.W.Frag} {M M' H H' : Hp} {sh : Shp} {v : V} {d : D} {A : List Addr} (h : RepS w K M H sh v d A) (s : Same M M') (k : ∀ a ∈ A, ∀ o, H a = some o → H' a = some o) : RepS w K M' H' sh v d A := by
  cases h with
  | pur h => exact .pur (h.mono s)
  | lst h r => exact .lst (k _ List.mem_cons_self _ h) (r.mono s)
  | exn => exact .exn
  | dk h r => exact .dk (k _ List.mem_cons_self _ h) (r.mono s)
  | dn h r => exact .dn (k _ List.mem_cons_self _ h) (r.mono s)
  | obj h r n => exact .obj (k _ List.mem_cons_self _ h) (r.mono s fun a ha => k a (List.mem_cons_of_mem _ ha)) n
theorem RepS.purI {w : World} {K : PySem.W.Frag} {M H : Hp} {v : V} {d : D} {A : List Addr} (h : RepS w K M H .pur v d A) : A = [] ∧ Rep K M v d := by
  cases h with
  | pur h => exact ⟨rfl, h⟩
theorem RepS.lstI {w : World} {K : PySem.W.Frag} {M H : Hp} {v : V} {d : D} {A : List Addr} (h : RepS w K M H .lst v d A) : ∃ a vs ds, v = .ref a ∧ d = .list ds ∧ A = [a] ∧ H a = some (.lst vs) ∧ RepAll K M vs ds := by
  cases h with
  | lst h r => exact ⟨_, _, _, rfl, rfl, rfl, h, r⟩
abbrev Own := Nat → List Addr
abbrev Gh := Addr → Prop
def Ow (O : Own) (G : Gh) : Gh := fun a => G a ∨ ∃ i, a ∈ O i
def updO (O : Own) (i : Nat) (A : List Addr) : Own := fun j => if j = i then A else O j
theorem updO_same {O : Own} {i : Nat} {A : List Addr} : updO O i A i = A := if_pos rfl
theorem updO_ne {O : Own} {i j : Nat} {A : List Addr} (h : j ≠ i) : updO O i A j = O j := if_neg h
def GA (A : List Addr) (G : Gh) : Gh := fun a => a ∈ A ∨ G a
abbrev Ms := Nat → Md
structure Rel (w : World) (K : PySem.W.Frag) (ms : Ms) (σ : L2.St) (H : Hp) (r : Rho) (O : Own) (G : Gh) : Prop where
  len : r.length = σ.length
  slot : ∀ i d, r[i]? = some (some d) → ∃ v, σ[i]? = some (some v) ∧ RepS w K (msk H (Ow O G)) H (ms i).sh v d (O i)
  emp : ∀ i, (∀ d, r[i]? ≠ some (some d)) → O i = []
  tr : ∀ a, G a → H a ≠ none
  dj : ∀ i j a, a ∈ O i → a ∈ O j → i = j
  dG : ∀ i a, a ∈ O i → ¬ G a
structure Ext (H : Hp) (O : Own) (G : Gh) (H' : Hp) (O' : Own) (G' : Gh) : Prop where
  sm : Same (msk H (Ow O G)) (msk H' (Ow O' G'))
  gh : ∀ a, G a → G' a ∧ H' a = H a
theorem Ext.refl {H : Hp} {O : Own} {G : Gh} : Ext H O G H O G := ⟨Same.refl _, fun a h => ⟨h, rfl⟩⟩
theorem Ext.trans {H1 H2 H3 : Hp} {O1 O2 O3 : Own} {G1 G2 G3 : Gh} (a : Ext H1 O1 G1 H2 O2 G2) (b : Ext H2 O2 G2 H3 O3 G3) : Ext H1 O1 G1 H3 O3 G3 :=
  ⟨a.sm.trans b.sm, fun x h => ⟨(b.gh x (a.gh x h).1).1, (b.gh x (a.gh x h).1).2.trans (a.gh x h).2⟩⟩
theorem Ext.same {H H' : Hp} {O : Own} {G : Gh} (s : Same H H') (tr : ∀ a, G a → H a ≠ none) : Ext H O G H' O G := ⟨msk_same s, fun a h => ⟨h, by
  cases e : H a with
  | none => exact absurd e (tr a h)
  | some o => exact s a o e⟩⟩
section
variable {w : World} {K : PySem.W.Frag} {ms : Ms} {σ : L2.St} {H H' : Hp} {r : Rho} {O : Own} {G : Gh}
theorem Rel.trO (h : Rel w K ms σ H r O G) : ∀ a, Ow O G a → H a ≠ none := by
  rintro a (g | ⟨i, hi⟩)
  · exact h.tr a g
  · by_cases q : ∃ d, r[i]? = some (some d)
    · obtain ⟨d, e⟩ := q
      obtain ⟨v, _, rs⟩ := h.slot i d e
      exact rs.tr a hi
    · rw [h.emp i fun d e => q ⟨d, e⟩] at hi
      cases hi
theorem Rel.same (h : Rel w K ms σ H r O G) (s : Same H H') : Rel w K ms σ H' r O G where
  len := h.len
  slot := fun i d e => by
    obtain ⟨v, e1, rs⟩ := h.slot i d e
    exact ⟨v, e1, rs.mono (msk_same s) fun a _ o q => s a o q⟩
  emp := h.emp
  tr := fun a g => by
    cases e : H a with
    | none => exact absurd e (h.tr a g)
    | some o => rw [s a o e]; exact fun z => by cases z
  dj := h.dj
  dG := h.dG
theorem Rel.nowned (h : Rel w K ms σ H r O G) {p : Addr} (hp : H p = none) : ¬ Ow O G p := fun z => h.trO p z hp
theorem Rel.pur (h : Rel w K ms σ H r O G) {i : Nat} {d : D} (e : r[i]? = some (some d)) (hs : (ms i).sh = .pur) : ∃ v, σ[i]? = some (some v) ∧ Rep K (msk H (Ow O G)) v d := by
  obtain ⟨v, e1, rs⟩ := h.slot i d e
  rw [hs] at rs
  exact ⟨v, e1, rs.purI.2⟩
/-- a pure value is stored in a slot -/
theorem Rel.set (h : Rel w K ms σ H r O G) {i : Nat} {v : V} {d : D} (hs : (ms i).sh = .pur) (hi : i < r.length) (hr : Rep K (msk H (Ow O G)) v d) : Rel w K ms (σ.set i (some v)) H (r.set i (some d)) O G := by
  have hO : O i = [] := by
    by_cases q : ∃ d, r[i]? = some (some d)
    · obtain ⟨d, e⟩ := q
      obtain ⟨v, _, rs⟩ := h.slot i d e
      rw [hs] at rs
      exact rs.purI.1
    · exact h.emp i fun d e => q ⟨d, e⟩
  refine ⟨by rw [List.length_set, List.length_set]; exact h.len, fun j e he => ?_, fun j hj => ?_, h.tr, h.dj, h.dG⟩
  · by_cases q : j = i
    · subst q
      rw [List.getElem?_set_self hi] at he
      cases he
      refine ⟨v, by rw [List.getElem?_set_self (by rw [← h.len]; exact hi)], ?_⟩
      rw [hs, hO]
      exact .pur hr
    · rw [List.getElem?_set_ne (Ne.symm q)] at he
      obtain ⟨u, e1, rs⟩ := h.slot j e he
      exact ⟨u, by rw [List.getElem?_set_ne (Ne.symm q)]; exact e1, rs⟩
  · by_cases q : j = i
    · subst q; exact hO
    · exact h.emp j fun e he => hj e (by rw [List.getElem?_set_ne (Ne.symm q)]; exact he)
theorem ow_ga {A : List Addr} {i : Nat} {a : Addr} : Ow (updO O i A) G a → Ow O (GA A G) a := by
  rintro (g | ⟨j, hj⟩)
  · exact .inl (.inr g)
  · by_cases q : j = i
    · subst q; rw [updO_same] at hj; exact .inl (.inl hj)
    · rw [updO_ne q] at hj; exact .inr ⟨j, hj⟩
/-- an object of one's own (its addresses A were guarded) is stored in a slot; what stood there is let go -/
theorem Rel.setOwn {A : List Addr} (h : Rel w K ms σ H r O (GA A G)) (hG : ∀ a ∈ A, ¬ G a) {i : Nat} {v : V} {d : D} (hi : i < r.length) (hr : RepS w K (msk H (Ow O (GA A G))) H (ms i).sh v d A) :
    Rel w K ms (σ.set i (some v)) H (r.set i (some d)) (updO O i A) G := by
  have sm : Same (msk H (Ow O (GA A G))) (msk H (Ow (updO O i A) G)) := msk_less fun a z => ow_ga z
  refine ⟨by rw [List.length_set, List.length_set]; exact h.len, fun j e he => ?_, fun j hj => ?_, fun a g => h.tr a (.inr g), fun j k a hj hk => ?_, fun j a hj => ?_⟩
  · by_cases q : j = i
    · subst q
      rw [List.getElem?_set_self hi] at he
      cases he
      refine ⟨v, by rw [List.getElem?_set_self (by rw [← h.len]; exact hi)], ?_⟩
      rw [updO_same]
      exact hr.mono sm fun _ _ _ z => z
    · rw [List.getElem?_set_ne (Ne.symm q)] at he
      obtain ⟨u, e1, rs⟩ := h.slot j e he
      refine ⟨u, by rw [List.getElem?_set_ne (Ne.symm q)]; exact e1, ?_⟩
      rw [updO_ne q]
      exact rs.mono sm fun _ _ _ z => z
  · by_cases q : j = i
    · subst q
      exact absurd (List.getElem?_set_self hi) (hj d)
    · rw [updO_ne q]
      exact h.emp j fun e he => hj e (by rw [List.getElem?_set_ne (Ne.symm q)]; exact he)
  · by_cases q : j = i
    · by_cases q2 : k = i
      · rw [q, q2]
      · subst q
        rw [updO_same] at hj
        rw [updO_ne q2] at hk
        exact absurd (.inl hj) (h.dG k a hk)
    · rw [updO_ne q] at hj
      by_cases q2 : k = i
      · subst q2
        rw [updO_same] at hk
        exact absurd (.inl hk) (h.dG j a hj)
      · rw [updO_ne q2] at hk
        exact h.dj j k a hj hk
  · by_cases q : j = i
    · subst q
      rw [updO_same] at hj
      exact hG a hj
    · rw [updO_ne q] at hj
      exact fun g => h.dG j a hj (.inr g)
/-- a slot is emptied (its object, if it has one, is let go) -/
theorem Rel.drop (h : Rel w K ms σ H r O G) (i : Nat) : Rel w K ms σ H (r.set i none) (updO O i []) G := by
  have sm : Same (msk H (Ow O G)) (msk H (Ow (updO O i []) G)) := msk_less fun a z => by
    rcases z with g | ⟨j, hj⟩
    · exact .inl g
    · by_cases q : j = i
      · subst q; rw [updO_same] at hj; cases hj
      · rw [updO_ne q] at hj; exact .inr ⟨j, hj⟩
  refine ⟨by rw [List.length_set]; exact h.len, fun j e he => ?_, fun j hj => ?_, h.tr, fun j k a hj hk => ?_, fun j a hj => ?_⟩
  · by_cases q : j = i
    · subst q
      rw [List.getElem?_set] at he
      split at he
      · split at he <;> cases he
      · rename_i z; exact absurd rfl z
    · rw [List.getElem?_set_ne (Ne.symm q)] at he
      obtain ⟨u, e1, rs⟩ := h.slot j e he
      refine ⟨u, e1, ?_⟩
      rw [updO_ne q]
      exact rs.mono sm fun _ _ _ z => z
  · by_cases q : j = i
    · subst q; exact updO_same
    · rw [updO_ne q]
      exact h.emp j fun e he => hj e (by rw [List.getElem?_set_ne (Ne.symm q)]; exact he)
  · by_cases q : j = i
    · subst q; rw [updO_same] at hj; cases hj
    · rw [updO_ne q] at hj
      by_cases q2 : k = i
      · subst q2; rw [updO_same] at hk; cases hk
      · rw [updO_ne q2] at hk; exact h.dj j k a hj hk
  · by_cases q : j = i
    · subst q; rw [updO_same] at hj; cases hj
    · rw [updO_ne q] at hj; exact h.dG j a hj
/-- an object of one's own leaves its slot; its addresses are guarded -/
theorem Rel.mv (h : Rel w K ms σ H r O G) {i : Nat} {d : D} (e : r[i]? = some (some d)) : ∃ v, σ[i]? = some (some v) ∧
    Rel w K ms σ H (r.set i none) (updO O i []) (GA (O i) G) ∧ Ext H O G H (updO O i []) (GA (O i) G) ∧ RepS w K (msk H (Ow (updO O i []) (GA (O i) G))) H (ms i).sh v d (O i) := by
  obtain ⟨v, e1, rs⟩ := h.slot i d e
  have wq : ∀ a, Ow (updO O i []) (GA (O i) G) a ↔ Ow O G a := fun a => by
    constructor
    · rintro ((g | g) | ⟨j, hj⟩)
      · exact .inr ⟨i, g⟩
      · exact .inl g
      · by_cases q : j = i
        · subst q; rw [updO_same] at hj; cases hj
        · rw [updO_ne q] at hj; exact .inr ⟨j, hj⟩
    · rintro (g | ⟨j, hj⟩)
      · exact .inl (.inr g)
      · by_cases q : j = i
        · subst q; exact .inl (.inl hj)
        · exact .inr ⟨j, by rw [updO_ne q]; exact hj⟩
  have sm : Same (msk H (Ow O G)) (msk H (Ow (updO O i []) (GA (O i) G))) := msk_less fun a z => (wq a).mp z
  have hd := h.drop i
  refine ⟨v, e1, ⟨hd.len, fun j f he => ?_, hd.emp, ?_, hd.dj, fun j a hj => ?_⟩, ⟨sm, fun a g => ⟨.inr g, rfl⟩⟩, rs.mono sm fun _ _ _ z => z⟩
  · obtain ⟨u, e2, rs2⟩ := hd.slot j f he
    refine ⟨u, e2, ?_⟩
    by_cases q : j = i
    · subst q
      rw [List.getElem?_set] at he
      split at he
      · split at he <;> cases he
      · rename_i z; exact absurd rfl z
    · rw [List.getElem?_set_ne (Ne.symm q)] at he
      obtain ⟨u2, e3, rs3⟩ := h.slot j f he
      rw [e2] at e3; cases e3
      rw [updO_ne q]
      exact rs3.mono sm fun _ _ _ z => z
  · rintro a (g | g)
    · exact rs.tr a g
    · exact h.tr a g
  · by_cases q : j = i
    · subst q; rw [updO_same] at hj; cases hj
    · rw [updO_ne q] at hj
      rintro (g | g)
      · exact q (h.dj j i a hj g)
      · exact h.dG j a hj g
/-- guarded addresses are let go -/
theorem Rel.free {A : List Addr} (h : Rel w K ms σ H r O (GA A G)) : Rel w K ms σ H r O G where
  len := h.len
  slot := fun i d e => by
    obtain ⟨v, e1, rs⟩ := h.slot i d e
    exact ⟨v, e1, rs.mono (msk_less fun a z => z.elim (fun g => .inl (.inr g)) .inr) fun _ _ _ z => z⟩
  emp := h.emp
  tr := fun a g => h.tr a (.inr g)
  dj := h.dj
  dG := fun i a hi g => h.dG i a hi (.inr g)
/-- an object of one's own in slot i is changed in place -/
theorem Rel.mut (h : Rel w K ms σ H r O G) {i : Nat} {a : Addr} {vs vs' : List V} {ds ds' : List D} (hs : (ms i).sh = .lst) (e : r[i]? = some (some (.list ds))) (hO : O i = [a]) (hr : RepAll K (msk H (Ow O G)) vs' ds') :
    Rel w K ms σ (upd H a (.lst vs')) (r.set i (some (.list ds'))) O G ∧ Ext H O G (upd H a (.lst vs')) O G := by
  have ha : Ow O G a := .inr ⟨i, by rw [hO]; exact List.mem_cons_self⟩
  have me : msk (upd H a (.lst vs')) (Ow O G) = msk H (Ow O G) := by
    funext b
    by_cases q : Ow O G b
    · rw [msk_in q, msk_in q]
    · rw [msk_out q, msk_out q, upd_ne (fun z => q (by rw [z]; exact ha))]
  have hi : i < r.length := (List.getElem?_eq_some_iff.mp e).1
  refine ⟨⟨by rw [List.length_set]; exact h.len, fun j f he => ?_, fun j hj => ?_, fun b g => ?_, h.dj, h.dG⟩, ⟨by rw [me]; exact Same.refl _, fun b g => ⟨g, upd_ne fun z => h.dG i a (by rw [hO]; exact List.mem_cons_self) (by rw [← z]; exact g)⟩⟩⟩
  · rw [me]
    by_cases q : j = i
    · subst q
      rw [List.getElem?_set_self hi] at he
      cases he
      obtain ⟨v, e1, rs⟩ := h.slot j _ e
      rw [hs] at rs
      obtain ⟨b, us, es, e2, e3, e4, _, _⟩ := rs.lstI
      rw [hO] at e4
      cases e4
      subst e2
      refine ⟨_, e1, ?_⟩
      rw [hs, hO]
      exact .lst upd_same hr
    · rw [List.getElem?_set_ne (Ne.symm q)] at he
      obtain ⟨v, e1, rs⟩ := h.slot j f he
      refine ⟨v, e1, rs.mono (Same.refl _) fun b hb o z => ?_⟩
      rw [upd_ne fun z2 => q (h.dj j i b hb (by rw [hO, z2]; exact List.mem_cons_self))]
      exact z
  · by_cases q : j = i
    · subst q
      exact absurd (List.getElem?_set_self hi) (hj _)
    · exact h.emp j fun f he => hj f (by rw [List.getElem?_set_ne (Ne.symm q)]; exact he)
  · by_cases q : b = a
    · rw [q, upd_same]; exact fun z => by cases z
    · rw [upd_ne q]; exact h.tr b g
/-- a new object stands outside of all that is owned; guarded -/
theorem Rel.guard (h : Rel w K ms σ H r O G) {p : Addr} {o : HO} (hp : H p = none) : Rel w K ms σ (upd H p o) r O (GA [p] G) ∧ Ext H O G (upd H p o) O (GA [p] G) := by
  have h2 := h.same (H' := upd H p o) fun b u e => by rw [upd_ne (ne_of_none e hp)]; exact e
  have sm : Same (msk H (Ow O G)) (msk (upd H p o) (Ow O (GA [p] G))) := fun b u e => by
    obtain ⟨n, e⟩ := msk_some e
    have hb : b ≠ p := ne_of_none e hp
    refine msk_mk ?_ (by rw [upd_ne hb]; exact e)
    rintro ((g | g) | g)
    · exact hb (List.mem_singleton.mp g)
    · exact n (.inl g)
    · exact n (.inr g)
  refine ⟨⟨h.len, fun i d e => ?_, h.emp, ?_, h.dj, fun i a hi => ?_⟩, ⟨sm, fun a g => ⟨.inr g, upd_ne fun z => h.tr a g (by rw [z]; exact hp)⟩⟩⟩
  · obtain ⟨v, e1, rs⟩ := h.slot i d e
    exact ⟨v, e1, rs.mono sm fun b hb u z => by rw [upd_ne (ne_of_none z hp)]; exact z⟩
  · rintro a (g | g)
    · rw [List.mem_singleton.mp g, upd_same]; exact fun z => by cases z
    · exact h2.tr a g
  · rintro (g | g)
    · exact h.trO a (.inr ⟨i, hi⟩) (by rw [List.mem_singleton.mp g]; exact hp)
    · exact h.dG i a hi g
end
end DL
end

section
set_option maxHeartbeats 1000000
namespace DL
open PySem PySem.Spec PyProof.Rows L2

/-! ## judgements -/
/-- an exception: c its class's name, x its payload -/
def ExcR (X : Cx) (H : Hp) (c : Str) (x : D) (cv : Value) (dx : Option Addr) : Prop :=
  X.mg c = some cv ∧ ((x = .none ∧ dx = none) ∨ ∃ (d : Addr) (f : Str) (i : Int), x = .tuple [.str f, .int i] ∧ dx = some d ∧ H d = some (.xd [(f, .int i)]))
def Bx (X : Cx) (W : WX) (ms : Ms) (σ : L2.St) (H : Hp) (O : Own) (G : Gh) : Str → D → Rho → Prop := fun c x r' =>
  ∀ cv dx H' O', Rel X.w X.K ms σ H' r' O' G → Ext H O G H' O' G → ExcR X H' c x cv dx → W cv dx σ H'
theorem Bx.mono {X : Cx} {W : WX} {ms : Ms} {σ : L2.St} {H H1 : Hp} {O O1 : Own} {G : Gh} (e : Ext H O G H1 O1 G) {c : Str} {x : D} {r : Rho} (h : Bx X W ms σ H O G c x r) : Bx X W ms σ H1 O1 G c x r :=
  fun cv dx H' O' r e' z => h cv dx H' O' r (e.trans e') z
/-- an expression whose value is pure -/
def tE (X : Cx) (W : WX) (ms : Ms) (f : Rho → R D) : TE := fun σ H Q => ∃ r O G, Rel X.w X.K ms σ H r O G ∧
  (f r).on (fun d r' => ∀ v H' O', Rel X.w X.K ms σ H' r' O' G → Ext H O G H' O' G → Rep X.K (msk H' (Ow O' G)) v d → Q v H') (Bx X W ms σ H O G)
abbrev CE (X : Cx) (W : WX) (ms : Ms) (e : Expr) (f : Rho → R D) : Prop := PE X e (tE X W ms f)
/-- an expression whose value is an object of one's own -/
def tEo (X : Cx) (W : WX) (ms : Ms) (sh : Shp) (f : Rho → R D) : TE := fun σ H Q => ∃ r O G, Rel X.w X.K ms σ H r O G ∧
  (f r).on (fun d r' => ∀ v H' O' A, Rel X.w X.K ms σ H' r' O' (GA A G) → Ext H O G H' O' (GA A G) → (∀ a ∈ A, ¬ G a) → RepS X.w X.K (msk H' (Ow O' (GA A G))) H' sh v d A → Q v H') (Bx X W ms σ H O G)
abbrev CEo (X : Cx) (W : WX) (ms : Ms) (sh : Shp) (e : Expr) (f : Rho → R D) : Prop := PE X e (tEo X W ms sh f)
/-- an operand: a pure value, or what stands in a slot -/
inductive Opd where
  | val (d : D)
  | slot (i : Nat)
def dropX : Option D → Option D
  | some (.dict _) => none
  | x => x
theorem dropX_some {o : Option D} {d : D} (h : dropX o = some d) : o = some d := by
  unfold dropX at h
  split at h
  · cases h
  · exact h
def Opd.get (r : Rho) : Opd → Option D
  | .val d => some d
  | .slot i => dropX ((r[i]?).join)
def RepO (K : PySem.W.Frag) (M : Hp) (σ : L2.St) (v : V) : Opd → Prop
  | .val d => Rep K M v d
  | .slot i => σ[i]? = some (some v)
theorem RepO.mono {K : PySem.W.Frag} {M M' : Hp} {σ : L2.St} {v : V} {o : Opd} (h : RepO K M σ v o) (s : Same M M') : RepO K M' σ v o := by
  cases o with
  | val d => exact Rep.mono s h
  | slot i => exact h
/-- what can be read now -/
def RepB (K : PySem.W.Frag) (M H : Hp) (v : V) (d : D) : Prop := Rep K M v d ∨ ∃ a vs ds, v = .ref a ∧ d = .list ds ∧ H a = some (.lst vs) ∧ RepAll K M vs ds
theorem RepB.rep {K : PySem.W.Frag} {H : Hp} {W : Gh} {v : V} {d : D} (h : RepB K (msk H W) H v d) : Rep K H v d := by
  rcases h with h | ⟨a, vs, ds, rfl, rfl, h, r⟩
  · exact h.mono msk_sub
  · exact .lst (.inl h) (r.mono msk_sub)
theorem RepB.lstI {K : PySem.W.Frag} {H : Hp} {W : Gh} {v : V} {ds : List D} (h : RepB K (msk H W) H v (.list ds)) : ∃ a xs, v = .ref a ∧ Rd H a (.lst xs) ∧ RepAll K (msk H W) xs ds := by
  rcases h with h | ⟨a, vs, es, rfl, e, h, r⟩
  · obtain ⟨a, xs, e, q, r⟩ := h.lstI
    exact ⟨a, xs, e, DL.Same.rd msk_sub q, r⟩
  · cases e
    exact ⟨_, _, rfl, .inl h, r⟩
theorem RepB.tupI {K : PySem.W.Frag} {H : Hp} {W : Gh} {v : V} {ds : List D} (h : RepB K (msk H W) H v (.tuple ds)) : ∃ a xs, v = .ref a ∧ SqT K H a xs ∧ RepAll K (msk H W) xs ds := by
  rcases h with h | ⟨a, vs, es, rfl, e, h, r⟩
  · obtain ⟨a, xs, e, q, r⟩ := h.tupI
    exact ⟨a, xs, e, DL.Same.tup msk_sub q, r⟩
  · cases e
theorem RepB.strI {K : PySem.W.Frag} {M H : Hp} {v : V} {x : Str} (h : RepB K M H v (.str x)) : v = .str x := by
  rcases h with h | ⟨a, vs, es, rfl, e, h, r⟩
  · exact h.strI
  · cases e
theorem RepB.intI {K : PySem.W.Frag} {M H : Hp} {v : V} {x : Int} (h : RepB K M H v (.int x)) : v = .int x := by
  rcases h with h | ⟨a, vs, es, rfl, e, h, r⟩
  · exact h.intI
  · cases e
theorem RepB.blI {K : PySem.W.Frag} {M H : Hp} {v : V} {x : Bool} (h : RepB K M H v (.bool x)) : v = .bl x := by
  rcases h with h | ⟨a, vs, es, rfl, e, h, r⟩
  · exact h.blI
  · cases e
theorem RepB.nonI {K : PySem.W.Frag} {M H : Hp} {v : V} (h : RepB K M H v .none) : v = .non := by
  rcases h with h | ⟨a, vs, es, rfl, e, h, r⟩
  · exact h.nonI
  · cases e
theorem RepB.purI {K : PySem.W.Frag} {M H : Hp} {v : V} {d : D} (h : Rep K M v d) : RepB K M H v d := .inl h
theorem RepO.get {w : World} {K : PySem.W.Frag} {ms : Ms} {σ : L2.St} {H : Hp} {r : Rho} {O : Own} {G : Gh} {v : V} {o : Opd} {d : D} (R : Rel w K ms σ H r O G) (h : RepO K (msk H (Ow O G)) σ v o) (e : o.get r = some d) : RepB K (msk H (Ow O G)) H v d := by
  cases o with
  | val x => cases e; exact .purI h
  | slot i =>
    have e' : r[i]? = some (some d) := by
      have e : (r[i]?).join = some d := dropX_some e
      cases q : r[i]? with
      | none => rw [q] at e; cases e
      | some x => rw [q] at e; exact congrArg some e
    obtain ⟨u, e1, rs⟩ := R.slot i d e'
    have e2 : σ[i]? = some (some v) := h
    rw [e1] at e2
    cases e2
    have hd : ∀ kvs, d ≠ .dict kvs := fun kvs z => by
      subst z
      have e : dropX ((r[i]?).join) = some _ := e
      rw [e'] at e
      cases e
    generalize (ms i).sh = sh at rs
    generalize O i = Oi at rs
    cases rs with
    | pur h => exact .inl h
    | lst h1 r1 => exact .inr ⟨_, _, _, rfl, rfl, h1, r1⟩
    | exn => exact absurd rfl (hd _)
    | dk h r => exact absurd rfl (hd _)
    | dn h r => exact absurd rfl (hd _)
    | obj h r n => exact absurd rfl (hd _)
def tO (X : Cx) (W : WX) (ms : Ms) (f : Rho → R Opd) : TE := fun σ H Q => ∃ r O G, Rel X.w X.K ms σ H r O G ∧
  (f r).on (fun d r' => ∀ v H' O', Rel X.w X.K ms σ H' r' O' G → Ext H O G H' O' G → RepO X.K (msk H' (Ow O' G)) σ v d → Q v H') (Bx X W ms σ H O G)
abbrev CO (X : Cx) (W : WX) (ms : Ms) (e : Expr) (f : Rho → R Opd) : Prop := PE X e (tO X W ms f)
/-- arguments -/
inductive RepOs (K : PySem.W.Frag) (M : Hp) (σ : L2.St) : List V → List Opd → Prop
  | nil : RepOs K M σ [] []
  | cons {v : V} {vs : List V} {o : Opd} {os : List Opd} : RepO K M σ v o → RepOs K M σ vs os → RepOs K M σ (v :: vs) (o :: os)
def tA (X : Cx) (W : WX) (ms : Ms) (f : Rho → R (List Opd)) : TA := fun σ H Q => ∃ r O G, Rel X.w X.K ms σ H r O G ∧
  (f r).on (fun d r' => ∀ v H' O', Rel X.w X.K ms σ H' r' O' G → Ext H O G H' O' G → RepOs X.K (msk H' (Ow O' G)) σ v d → Q v H') (Bx X W ms σ H O G)
abbrev CA (X : Cx) (W : WX) (ms : Ms) (es : List Expr) (f : Rho → R (List Opd)) : Prop := PA X es (tA X W ms f)
/-- a test -/
def tT (X : Cx) (W : WX) (ms : Ms) (f : Rho → R Bool) : TT := fun σ H Q => ∃ r O G, Rel X.w X.K ms σ H r O G ∧
  (f r).on (fun d r' => ∀ H' O', Rel X.w X.K ms σ H' r' O' G → Ext H O G H' O' G → Q d H') (Bx X W ms σ H O G)
abbrev CT (X : Cx) (W : WX) (ms : Ms) (e : Expr) (f : Rho → R Bool) : Prop := PT X e (tT X W ms f)
/-- statements -/
inductive SR where
  | nx (r : Rho)
  | rt (d : D) (r : Rho)
  | bk (r : Rho)
  | ct (r : Rho)
  | exc (c : Str) (x : D) (r : Rho)
  | bad
structure Fx (ms : Ms) (σ σ' : L2.St) : Prop where
  len : σ'.length = σ.length
  at_ : ∀ i, (ms i).fx = true → σ'[i]? = σ[i]?
theorem Fx.refl {ms : Ms} {σ : L2.St} : Fx ms σ σ := ⟨rfl, fun _ _ => rfl⟩
theorem Fx.trans {ms : Ms} {σ σ' σ'' : L2.St} (a : Fx ms σ σ') (b : Fx ms σ' σ'') : Fx ms σ σ'' := ⟨b.len.trans a.len, fun i h => (b.at_ i h).trans (a.at_ i h)⟩
/-- what is wanted behind a statement that began at σ, H, O (rs: what a return hands out) -/
def SBx (X : Cx) (W : WX) (ms : Ms) (σ : L2.St) (H : Hp) (O : Own) (G : Gh) (c : Str) (x : D) (r' : Rho) : Prop :=
  ∀ cv dx σ' H' O', Rel X.w X.K ms σ' H' r' O' G → Ext H O G H' O' G → Fx ms σ σ' → ExcR X H' c x cv dx → W cv dx σ' H'
def SOn (X : Cx) (W : WX) (ms : Ms) (rs : Shp) (E : Ends) (σ : L2.St) (H : Hp) (O : Own) (G : Gh) : SR → Prop
  | .nx r' => ∀ σ' H' O', Rel X.w X.K ms σ' H' r' O' G → Ext H O G H' O' G → Fx ms σ σ' → E.nx σ' H'
  | .bk r' => ∀ σ' H' O', Rel X.w X.K ms σ' H' r' O' G → Ext H O G H' O' G → Fx ms σ σ' → E.bk σ' H'
  | .ct r' => ∀ σ' H' O', Rel X.w X.K ms σ' H' r' O' G → Ext H O G H' O' G → Fx ms σ σ' → E.ct σ' H'
  | .rt d r' => ∀ v σ' H' O' A, Rel X.w X.K ms σ' H' r' O' (GA A G) → Ext H O G H' O' (GA A G) → (∀ a ∈ A, ¬ G a) → Fx ms σ σ' → RepS X.w X.K (msk H' (Ow O' (GA A G))) H' rs v d A → E.rt v H'
  | .exc c x r' => SBx X W ms σ H O G c x r'
  | .bad => False
def tS (X : Cx) (W : WX) (ms : Ms) (rs : Shp) (g : Rho → SR) : TS := fun E σ H => ∃ r O G, Rel X.w X.K ms σ H r O G ∧ SOn X W ms rs E σ H O G (g r)
abbrev CS (X : Cx) (W : WX) (ms : Ms) (rs : Shp) (st : Stmt) (g : Rho → SR) : Prop := PS X st (tS X W ms rs g)
abbrev CSs (X : Cx) (W : WX) (ms : Ms) (rs : Shp) (sts : List Stmt) (g : Rho → SR) : Prop := PSs X sts (tS X W ms rs g)

/-! ## weakening, steps -/
section
variable {X : Cx} {W : WX} {ms : Ms} {rs : Shp} {σ : L2.St} {H H1 : Hp} {r : Rho} {O O1 : Own} {G : Gh}
theorem _root_.L2.PE.weak {e : Expr} {t t' : TE} (h : PE X e t) (w : ∀ σ H Q, t' σ H Q → t σ H Q) : PE X e t' := ⟨fun pins s σ H Q I q => h.run pins s σ H Q I (w σ H Q q)⟩
theorem _root_.L2.PT.weak {e : Expr} {t t' : TT} (h : PT X e t) (w : ∀ σ H Q, t' σ H Q → t σ H Q) : PT X e t' := ⟨fun pins s σ H Q I q => h.run pins s σ H Q I (w σ H Q q)⟩
theorem _root_.L2.PA.weak {e : List Expr} {t t' : TA} (h : PA X e t) (w : ∀ σ H Q, t' σ H Q → t σ H Q) : PA X e t' := ⟨fun pos pins s σ H Q I q => h.run pos pins s σ H Q I (w σ H Q q)⟩
theorem _root_.L2.PS.weak {e : Stmt} {t t' : TS} (h : PS X e t) (w : ∀ D σ H, t' D σ H → t D σ H) : PS X e t' := ⟨fun pins s σ H D I q => h.run pins s σ H D I (w D σ H q)⟩
theorem _root_.L2.PSs.weak {e : List Stmt} {t t' : TS} (h : PSs X e t) (w : ∀ D σ H, t' D σ H → t D σ H) : PSs X e t' := ⟨fun pins s σ H D I q => h.run pins s σ H D I (w D σ H q)⟩
theorem bxm {α : Type} {x : R α} {A : α → Rho → Prop} (e : Ext H O G H1 O1 G) (h : x.on A (Bx X W ms σ H O G)) : x.on A (Bx X W ms σ H1 O1 G) := h.mono (fun _ _ z => z) fun _ _ _ z => z.mono e
theorem tE_step {f : Rho → R D} {A : D → Rho → Prop} {Q : VK} (h : Rel X.w X.K ms σ H r O G) (hh : (f r).on A (Bx X W ms σ H O G))
    (q : ∀ d r' v H' O', A d r' → Rel X.w X.K ms σ H' r' O' G → Ext H O G H' O' G → Rep X.K (msk H' (Ow O' G)) v d → Q v H') : tE X W ms f σ H Q :=
  ⟨r, O, G, h, hh.mono (fun d r' a v H' O' h1 e1 p => q d r' v H' O' a h1 e1 p) fun _ _ _ b => b⟩
theorem tO_step {f : Rho → R Opd} {A : Opd → Rho → Prop} {Q : VK} (h : Rel X.w X.K ms σ H r O G) (hh : (f r).on A (Bx X W ms σ H O G))
    (q : ∀ d r' v H' O', A d r' → Rel X.w X.K ms σ H' r' O' G → Ext H O G H' O' G → RepO X.K (msk H' (Ow O' G)) σ v d → Q v H') : tO X W ms f σ H Q :=
  ⟨r, O, G, h, hh.mono (fun d r' a v H' O' h1 e1 p => q d r' v H' O' a h1 e1 p) fun _ _ _ b => b⟩
theorem tA_step {f : Rho → R (List Opd)} {A : List Opd → Rho → Prop} {Q : List V → Hp → Prop} (h : Rel X.w X.K ms σ H r O G) (hh : (f r).on A (Bx X W ms σ H O G))
    (q : ∀ d r' v H' O', A d r' → Rel X.w X.K ms σ H' r' O' G → Ext H O G H' O' G → RepOs X.K (msk H' (Ow O' G)) σ v d → Q v H') : tA X W ms f σ H Q :=
  ⟨r, O, G, h, hh.mono (fun d r' a v H' O' h1 e1 p => q d r' v H' O' a h1 e1 p) fun _ _ _ b => b⟩
theorem tT_step {f : Rho → R Bool} {A : Bool → Rho → Prop} {Q : Bool → Hp → Prop} (h : Rel X.w X.K ms σ H r O G) (hh : (f r).on A (Bx X W ms σ H O G))
    (q : ∀ d r' H' O', A d r' → Rel X.w X.K ms σ H' r' O' G → Ext H O G H' O' G → Q d H') : tT X W ms f σ H Q :=
  ⟨r, O, G, h, hh.mono (fun d r' a H' O' h1 e1 => q d r' H' O' a h1 e1) fun _ _ _ b => b⟩
theorem tEo_step {sh : Shp} {f : Rho → R D} {A : D → Rho → Prop} {Q : VK} (h : Rel X.w X.K ms σ H r O G) (hh : (f r).on A (Bx X W ms σ H O G))
    (q : ∀ d r' v H' O' B, A d r' → Rel X.w X.K ms σ H' r' O' (GA B G) → Ext H O G H' O' (GA B G) → (∀ a ∈ B, ¬ G a) → RepS X.w X.K (msk H' (Ow O' (GA B G))) H' sh v d B → Q v H') : tEo X W ms sh f σ H Q :=
  ⟨r, O, G, h, hh.mono (fun d r' a v H' O' B h1 e1 n p => q d r' v H' O' B a h1 e1 n p) fun _ _ _ b => b⟩
theorem RepOs.mono {K : PySem.W.Frag} {M M' : Hp} {σ : L2.St} (s : Same M M') : ∀ {vs : List V} {os : List Opd}, RepOs K M σ vs os → RepOs K M' σ vs os
  | _, _, .nil => .nil
  | _, _, .cons a b => .cons (a.mono s) (RepOs.mono s b)

/-! ## names, constants, operands -/
def eVar (i : Nat) : Rho → R D := fun r => .ofO ((r[i]?).join) r
def eCst (d : D) : Rho → R D := fun r => .ok d r
def oVal (f : Rho → R D) : Rho → R Opd := fun r => (f r).bind fun d r' => .ok (.val d) r'
def oSlot (i : Nat) : Rho → R Opd := fun r => match (r[i]?).join with
  | some _ => .ok (.slot i) r
  | none => .bad
theorem join_some {r : Rho} {i : Nat} {d : D} (h : (r[i]?).join = some d) : r[i]? = some (some d) := by
  cases q : r[i]? with
  | none => rw [q] at h; cases h
  | some x => rw [q] at h; exact congrArg some h
theorem ce_var (i : Nat) {x : Str} {pos : Pos} (hs : (ms i).sh = .pur := by rfl) (hN : X.N[i]? = some x := by rfl) (hv : Vis X.env.scope x := by first | exact Or.inl rfl | exact Or.inr (Or.inl rfl) | exact Or.inr (Or.inr rfl)) (hd : (x == ("__debug__" : Str)) = false := by decide)
    (hcd : (x == ("__classdict__" : Str)) = false := by decide) : CE X W ms (.Name x pos) (eVar i) :=
  (pe_var hN hv hd hcd).weak fun σ H Q ⟨r, O, G, h, q⟩ => by
    obtain ⟨d, e, q⟩ := on_ofO q
    obtain ⟨v, e1, rp⟩ := h.pur (join_some e) hs
    exact ⟨v, e1, q v H O h .refl rp⟩
theorem co_slot (i : Nat) {x : Str} {pos : Pos} (hN : X.N[i]? = some x := by rfl) (hv : Vis X.env.scope x := by first | exact Or.inl rfl | exact Or.inr (Or.inl rfl) | exact Or.inr (Or.inr rfl)) (hd : (x == ("__debug__" : Str)) = false := by decide)
    (hcd : (x == ("__classdict__" : Str)) = false := by decide) : CO X W ms (.Name x pos) (oSlot i) :=
  (pe_var hN hv hd hcd).weak fun σ H Q ⟨r, O, G, h, q⟩ => by
    unfold oSlot at q
    cases e : (r[i]?).join with
    | none => rw [e] at q; exact False.elim q
    | some d =>
      rw [e] at q
      obtain ⟨v, e1, rs⟩ := h.slot i d (join_some e)
      exact ⟨v, e1, q v H O h .refl e1⟩
/-- a name whose object is handed on: its slot is empty behind it -/
def eMv (i : Nat) : Rho → R D := fun r => match (r[i]?).join with
  | some d => .ok d (r.set i none)
  | none => .bad
theorem ceo_mv (i : Nat) {sh : Shp} {x : Str} {pos : Pos} (hs : (ms i).sh = sh := by rfl) (hN : X.N[i]? = some x := by rfl) (hv : Vis X.env.scope x := by first | exact Or.inl rfl | exact Or.inr (Or.inl rfl) | exact Or.inr (Or.inr rfl)) (hd : (x == ("__debug__" : Str)) = false := by decide)
    (hcd : (x == ("__classdict__" : Str)) = false := by decide) : CEo X W ms sh (.Name x pos) (eMv i) :=
  (pe_var hN hv hd hcd).weak fun σ H Q ⟨r, O, G, h, q⟩ => by
    unfold eMv at q
    cases e : (r[i]?).join with
    | none => rw [e] at q; exact False.elim q
    | some d =>
      rw [e] at q
      obtain ⟨v, e1, R1, E1, rs⟩ := h.mv (join_some e)
      rw [hs] at rs
      exact ⟨v, e1, q v H _ _ R1 E1 (fun a ha g => h.dG i a ha g) rs⟩
/-- an object of one's own becomes pure -/
theorem ext_free {A : List Addr} {H' : Hp} {O' : Own} (e : Ext H O G H' O' (GA A G)) : Ext H O G H' O' G :=
  ⟨e.sm.trans (msk_less fun a z => z.elim (fun g => .inl (.inr g)) .inr), fun a g => ⟨g, (e.gh a g).2⟩⟩
theorem rep_free {w : World} {K : PySem.W.Frag} {A : List Addr} {O' : Own} {sh : Shp} {v : V} {d : D} (R : Rel w K ms σ H r O' (GA A G)) (hG : ∀ a ∈ A, ¬ G a) (k : Shp.ok sh = true) (h : RepS w K (msk H (Ow O' (GA A G))) H sh v d A) : Rep K (msk H (Ow O' G)) v d := by
  have sm : Same (msk H (Ow O' (GA A G))) (msk H (Ow O' G)) := msk_less fun a z => z.elim (fun g => .inl (.inr g)) .inr
  cases h with
  | pur h => exact h.mono sm
  | lst h q =>
    refine .lst (.inl (msk_mk ?_ h)) (q.mono sm)
    rintro (g | ⟨i, hi⟩)
    · exact hG _ List.mem_cons_self g
    · exact R.dG i _ hi (.inl List.mem_cons_self)
  | exn => cases k
  | dk _ _ => cases k
  | dn _ _ => cases k
  | obj _ _ _ => cases k
theorem ce_own {sh : Shp} {e : Expr} {f : Rho → R D} (h : CEo X W ms sh e f) (k : Shp.ok sh = true := by rfl) : CE X W ms e f :=
  h.weak fun σ H Q ⟨r, O, G, h, q⟩ => ⟨r, O, G, h, q.mono (fun d r' q v H' O' A h1 e1 n p => q v H' O' h1.free (ext_free e1) (rep_free h1 n k p)) fun _ _ _ b => b⟩
theorem co_val {e : Expr} {f : Rho → R D} (h : CE X W ms e f) : CO X W ms e (oVal f) :=
  h.weak fun σ H Q ⟨r, O, G, h, q⟩ => by
    unfold oVal at q
    rw [on_bind] at q
    exact ⟨r, O, G, h, q⟩
theorem ce_int {i : Int} {j : Nat} {pos : Pos} : CE X W ms (.Constant (.int i) j pos) (eCst (.int i)) := pe_int.weak fun σ H Q ⟨r, O, G, h, q⟩ => q _ H O h .refl (.int i)
theorem ce_bl {i : Bool} {j : Nat} {pos : Pos} : CE X W ms (.Constant (.bool i) j pos) (eCst (.bool i)) := pe_bl.weak fun σ H Q ⟨r, O, G, h, q⟩ => q _ H O h .refl (.bl i)
theorem ce_non {j : Nat} {pos : Pos} : CE X W ms (.Constant .none j pos) (eCst .none) := pe_non.weak fun σ H Q ⟨r, O, G, h, q⟩ => q _ H O h .refl .non
theorem ce_str {i : Str} {j : Nat} {pos : Pos} : CE X W ms (.Constant (.str i) j pos) (eCst (.str i)) := pe_str.weak fun σ H Q ⟨r, O, G, h, q⟩ => q _ H O h .refl (.str i)
/-- a constant of the module -/
theorem ce_glob {x : Str} {v : V} {u : Value} {d : D} {pos : Pos} (hm : X.mg x = some u) (rv : RelV v u) (hr : ∀ H, Rep X.K H v d) (hg : Gl X x := by rfl) (hd : (x == ("__debug__" : Str)) = false := by decide) : CE X W ms (.Name x pos) (eCst d) :=
  (pe_glob hg hm rv hd).weak fun σ H Q ⟨r, O, G, h, q⟩ => q _ H O h .refl (hr _)
theorem ce_globS {x z : Str} {pos : Pos} (hm : ∃ t, X.mg x = some (.str z t)) (hg : Gl X x := by rfl) (hd : (x == ("__debug__" : Str)) = false := by decide) : CE X W ms (.Name x pos) (eCst (.str z)) := by
  obtain ⟨t, hm⟩ := hm
  exact ce_glob (v := .str z) hm ⟨t, rfl⟩ (fun _ => .str z) hg hd
theorem ce_globI {x : Str} {z : Int} {pos : Pos} (hm : ∃ t, X.mg x = some (.int z t)) (hg : Gl X x := by rfl) (hd : (x == ("__debug__" : Str)) = false := by decide) : CE X W ms (.Name x pos) (eCst (.int z)) := by
  obtain ⟨t, hm⟩ := hm
  exact ce_glob (v := .int z) hm ⟨t, rfl⟩ (fun _ => .int z) hg hd
end

/-! ## operators -/
/-- what a two-place operation gives (some d), from what can be read; new objects may be made -/
def SemR (X : Cx) (r : R2) (sem : D → D → Option D) : Prop := ∀ (x y : V) (a b d : D) (H : Hp) (W : Gh) (Q : VK), RepB X.K (msk H W) H x a → RepB X.K (msk H W) H y b → (∀ p, W p → H p ≠ none) → sem a b = some d →
  (∀ v H', Same H H' → Rep X.K (msk H' W) v d → Q v H') → r x y H Q
def eBin (sem : D → D → Option D) (f g : Rho → R Opd) : Rho → R D := fun r => (f r).bind fun a r1 => (g r1).bind fun b r2 => .ofO ((a.get r2).bind fun x => (b.get r2).bind fun y => sem x y) r2
theorem bind_some {α β : Type} {o : Option α} {k : α → Option β} {b : β} (h : o.bind k = some b) : ∃ a, o = some a ∧ k a = some b := by
  cases o with
  | none => cases h
  | some a => exact ⟨a, rfl, h⟩
section
variable {X : Cx} {W : WX} {ms : Ms} {rs : Shp} {a b c : Expr} {f g k : Rho → R Opd} {pos : Pos}
theorem bin_read {r : R2} {sem : D → D → Option D} (hs : SemR X r sem) {σ : L2.St} {H : Hp} {Q : VK} (h : tE X W ms (eBin sem f g) σ H Q) : tOp r (tO X W ms f) (tO X W ms g) σ H Q := by
  obtain ⟨ρ, O, G, R, h⟩ := h
  unfold eBin at h
  rw [on_bind] at h
  refine tO_step R h fun a1 r1 v1 H1 O1 h1 R1 E1 p1 => ?_
  rw [on_bind] at h1
  refine tO_step R1 (bxm E1 h1) fun a2 r2 v2 H2 O2 h2 R2 E2 p2 => ?_
  obtain ⟨d, e, h2⟩ := on_ofO h2
  obtain ⟨x, ex, e⟩ := bind_some e
  obtain ⟨y, ey, e⟩ := bind_some e
  refine hs v1 v2 x y d H2 (Ow O2 G) Q ((p1.mono E2.sm).get R2 ex) (p2.get R2 ey) R2.trO e fun v H' sm rp => ?_
  exact h2 v H' O2 (R2.same sm) (E1.trans (E2.trans (.same sm R2.tr))) rp
theorem ce_bin {op : Operator} {r : R2} {sem : D → D → Option D} (ho : OpR X (binaryOp op) r) (hs : SemR X r sem) (ha : CO X W ms a f) (hb : CO X W ms b g) : CE X W ms (.BinOp a op b pos) (eBin sem f g) :=
  (pe_op ho ha hb).weak fun _ _ _ h => bin_read hs h
theorem ce_cmp {op : CmpOp} {r : R2} {sem : D → D → Option D} (ho : OpR X (compareOp op) r) (hs : SemR X r sem) (hm : behindInMarks op b = false) (ha : CO X W ms a f) (hb : CO X W ms b g) : CE X W ms (.Compare a [op] [b] pos) (eBin sem f g) :=
  (pe_cmpR ho ha hb hm).weak fun _ _ _ h => bin_read hs h
/-- a < b < c -/
def eChain (sem sem' : D → D → Option D) (f g k : Rho → R Opd) : Rho → R D := fun r => (f r).bind fun a r1 => (g r1).bind fun b r2 =>
  match ((a.get r2).bind fun x => (b.get r2).bind fun y => sem x y) with
  | some (.bool true) => (k r2).bind fun c r3 => .ofO ((b.get r3).bind fun x => (c.get r3).bind fun y => sem' x y) r3
  | some (.bool false) => .ok (.bool false) r2
  | _ => .bad
theorem ce_chain {op op' : CmpOp} {r r' : R2} {sem sem' : D → D → Option D} (ho : OpR X (compareOp op) r) (ho' : OpR X (compareOp op') r') (hs : SemR X r sem) (hs' : SemR X r' sem') (ha : CO X W ms a f) (hb : CO X W ms b g) (hc : CO X W ms c k)
    (hl : lastMarks [op, op'] [b, c] = false := by rfl) : CE X W ms (.Compare a [op, op'] [b, c] pos) (eChain sem sem' f g k) :=
  (pe_chain ho ho' ha hb hc hl).weak fun σ H Q h => by
    obtain ⟨ρ, O, G, R, h⟩ := h
    unfold eChain at h
    rw [on_bind] at h
    refine tO_step R h fun a1 r1 v1 H1 O1 h1 R1 E1 p1 => ?_
    rw [on_bind] at h1
    refine tO_step R1 (bxm E1 h1) fun a2 r2 v2 H2 O2 h2 R2 E2 p2 => ?_
    cases e : (a1.get r2).bind fun x => (a2.get r2).bind fun y => sem x y with
    | none => rw [e] at h2; exact False.elim h2
    | some d =>
      rw [e] at h2
      obtain ⟨x, ex, e⟩ := bind_some e
      obtain ⟨y, ey, e⟩ := bind_some e
      cases d with
      | bool t =>
        refine hs v1 v2 x y _ H2 (Ow O2 G) _ ((p1.mono E2.sm).get R2 ex) (p2.get R2 ey) R2.trO e fun v H3 sm rp => ?_
        have R3 := R2.same sm
        have E3 : Ext H2 O2 G H3 O2 G := .same sm R2.tr
        refine ⟨t, rp.blI, ?_⟩
        cases t with
        | true =>
          simp only at h2
          rw [on_bind] at h2
          rw [if_pos rfl]
          refine tO_step R3 (bxm (E1.trans (E2.trans E3)) (by simpa using h2)) fun a4 r4 v4 H4 O4 h4 R4 E4 p4 => ?_
          obtain ⟨d, e, h4⟩ := on_ofO h4
          obtain ⟨x', ex', e⟩ := bind_some e
          obtain ⟨y', ey', e⟩ := bind_some e
          refine hs' v2 v4 x' y' d H4 (Ow O4 G) Q ((p2.mono (E3.sm.trans E4.sm)).get R4 ex') (p4.get R4 ey') R4.trO e fun v H' sm rp => ?_
          exact h4 v H' O4 (R4.same sm) (E1.trans (E2.trans (E3.trans (E4.trans (.same sm R4.tr))))) rp
        | false =>
          rw [if_neg (by decide)]
          exact h2 (.bl false) H3 O2 R3 (E1.trans (E2.trans E3)) (.bl false)
      | _ => exact False.elim h2
end
end DL
end

section
set_option maxHeartbeats 1000000
namespace DL
open PySem PySem.Spec PyProof.Rows L2

/-! ## truth, and, or, not, if-else -/
theorem ite_some {c : Prop} [Decidable c] {α : Type} {x y : α} (h : (if c then some x else none) = some y) : c ∧ x = y := by
  split at h
  · rename_i q
    exact ⟨q, Option.some.inj h⟩
  · cases h
def tru : D → Option Bool
  | .none => some false
  | .bool b => some b
  | .int i => some (i != 0)
  | .str s => if s.length ≤ sizeLine then some ((s.length : Int) != 0) else none
  | .list xs => some (!xs.isEmpty)
  | .tuple xs => some (!xs.isEmpty)
  | .dict _ => none
theorem isEmpty_rep {K : PySem.W.Frag} {H : Hp} {vs : List V} {ds : List D} (h : RepAll K H vs ds) : ds.isEmpty = vs.isEmpty := by cases h <;> rfl
theorem tru_ok {K : PySem.W.Frag} {H : Hp} {W : Gh} {v : V} {d : D} {k : Bool} (h : RepB K (msk H W) H v d) (e : tru d = some k) : TruV K v H k := by
  cases d with
  | none => rw [h.nonI]; exact (Option.some.inj e).symm
  | bool b => rw [h.blI]; exact (Option.some.inj e).symm
  | int i => rw [h.intI]; exact (Option.some.inj e).symm
  | str s =>
    rw [h.strI]
    have e : (if s.length ≤ sizeLine then some ((s.length : Int) != 0) else none) = some k := e
    obtain ⟨hz, e2⟩ := ite_some e
    exact ⟨hz, e2.symm⟩
  | list xs =>
    obtain ⟨a, ys, rfl, q, r⟩ := h.lstI
    refine .inl ⟨ys, .inl q, ?_⟩
    rw [← isEmpty_rep r]
    exact (Option.some.inj e).symm
  | tuple xs =>
    obtain ⟨a, ys, rfl, q, r⟩ := h.tupI
    refine .inr (.inl ⟨ys, q, ?_⟩)
    rw [← isEmpty_rep r]
    exact (Option.some.inj e).symm
  | dict _ => cases e
section
variable {X : Cx} {W : WX} {ms : Ms} {rs : Shp} {a b c : Expr} {rest : List Expr} {f g k : Rho → R Opd} {e1 e2 : Rho → R D} {t1 t2 : Rho → R Bool} {pos : Pos}
def tTru (f : Rho → R Opd) : Rho → R Bool := fun r => (f r).bind fun o r1 => .ofO ((o.get r1).bind tru) r1
/-- an expression as a test -/
theorem ct_tru (ha : CO X W ms a f) (he : ∀ whole, isTrue a X.env whole = (do let v ← whole; standAt a.pos; holding [v] (truthy v)) := by intro _; rfl) : CT X W ms a (tTru f) :=
  (pt_truth ha he).weak fun σ H Q ⟨r, O, G, R, h⟩ => by
    unfold tTru at h
    rw [on_bind] at h
    refine tO_step R h fun o r1 v H1 O1 h1 R1 E1 p1 => ?_
    obtain ⟨k, e, h1⟩ := on_ofO h1
    obtain ⟨d, ed, e⟩ := bind_some e
    exact ⟨k, tru_ok (p1.get R1 ed) e, h1 H1 O1 R1 E1⟩
def tNot (t : Rho → R Bool) : Rho → R Bool := fun r => (t r).bind fun b r1 => .ok (!b) r1
theorem ct_not (h : CT X W ms a t1) : CT X W ms (.UnaryOp .Not a pos) (tNot t1) :=
  (pt_not h).weak fun σ H Q ⟨r, O, G, R, h⟩ => by
    unfold tNot at h
    rw [on_bind] at h
    exact tT_step R h fun b r1 H1 O1 h1 R1 E1 => h1 H1 O1 R1 E1
abbrev CW (X : Cx) (W : WX) (ms : Ms) (e : Expr) (f : Rho → R Bool) : Prop := PW X e (tT X W ms f)
theorem _root_.L2.PW.weak {e : Expr} {t t' : TT} (h : PW X e t) (w : ∀ σ H Q, t' σ H Q → t σ H Q) : PW X e t' := ⟨fun wh pins s σ H Q I q => h.run wh pins s σ H Q I (w σ H Q q)⟩
def tAnd (t u : Rho → R Bool) : Rho → R Bool := fun r => (t r).bind fun b r1 => if b = true then u r1 else .ok false r1
def tOr (t u : Rho → R Bool) : Rho → R Bool := fun r => (t r).bind fun b r1 => if b = true then .ok true r1 else u r1
theorem cw_and1 (h : CT X W ms a t1) : CW X W ms (.BoolOp .And [a] pos) t1 := pw_and1 h
theorem cw_or1 (h : CT X W ms a t1) : CW X W ms (.BoolOp .Or [a] pos) t1 := pw_or1 h
theorem cw_and (h : CT X W ms a t1) (q : CW X W ms (.BoolOp .And (b :: rest) pos) t2) : CW X W ms (.BoolOp .And (a :: b :: rest) pos) (tAnd t1 t2) :=
  (pw_and h q).weak fun σ H Q ⟨r, O, G, R, h⟩ => by
    unfold tAnd at h
    rw [on_bind] at h
    refine tT_step R h fun b r1 H1 O1 h1 R1 E1 => ?_
    cases b with
    | true => exact tT_step R1 (bxm E1 h1) fun b r2 H2 O2 h2 R2 E2 => h2 H2 O2 R2 (E1.trans E2)
    | false => exact h1 H1 O1 R1 E1
theorem cw_or (h : CT X W ms a t1) (q : CW X W ms (.BoolOp .Or (b :: rest) pos) t2) : CW X W ms (.BoolOp .Or (a :: b :: rest) pos) (tOr t1 t2) :=
  (pw_or h q).weak fun σ H Q ⟨r, O, G, R, h⟩ => by
    unfold tOr at h
    rw [on_bind] at h
    refine tT_step R h fun b r1 H1 O1 h1 R1 E1 => ?_
    cases b with
    | true => exact h1 H1 O1 R1 E1
    | false => exact tT_step R1 (bxm E1 h1) fun b r2 H2 O2 h2 R2 E2 => h2 H2 O2 R2 (E1.trans E2)
theorem ct_of (h : CW X W ms a t1) : CT X W ms a t1 := PW.pt h
/-- as values -/
def eAnd (f g : Rho → R D) : Rho → R D := fun r => (f r).bind fun d r1 => match tru d with
  | some true => g r1
  | some false => .ok d r1
  | none => .bad
def eOr (f g : Rho → R D) : Rho → R D := fun r => (f r).bind fun d r1 => match tru d with
  | some true => .ok d r1
  | some false => g r1
  | none => .bad
def eNot (f : Rho → R D) : Rho → R D := fun r => (f r).bind fun d r1 => match tru d with
  | some b => .ok (.bool !b) r1
  | none => .bad
theorem ce_one {op : BoolOp} (h : CE X W ms a e1) : CE X W ms (.BoolOp op [a] pos) e1 := pe_one h
theorem ce_and (h : CE X W ms a e1) (q : CE X W ms (.BoolOp .And (b :: rest) pos) e2) : CE X W ms (.BoolOp .And (a :: b :: rest) pos) (eAnd e1 e2) :=
  (pe_andT h q).weak fun σ H Q ⟨r, O, G, R, h⟩ => by
    unfold eAnd at h
    rw [on_bind] at h
    refine tE_step R h fun d r1 v H1 O1 h1 R1 E1 p1 => ?_
    cases e : tru d with
    | none => rw [e] at h1; exact False.elim h1
    | some k =>
      rw [e] at h1
      refine ⟨k, tru_ok (.purI p1) e, ?_⟩
      cases k with
      | true => exact tE_step R1 (bxm E1 h1) fun b r2 v2 H2 O2 h2 R2 E2 => h2 v2 H2 O2 R2 (E1.trans E2)
      | false => exact h1 v H1 O1 R1 E1 p1
theorem ce_or (h : CE X W ms a e1) (q : CE X W ms (.BoolOp .Or (b :: rest) pos) e2) : CE X W ms (.BoolOp .Or (a :: b :: rest) pos) (eOr e1 e2) :=
  (pe_orT h q).weak fun σ H Q ⟨r, O, G, R, h⟩ => by
    unfold eOr at h
    rw [on_bind] at h
    refine tE_step R h fun d r1 v H1 O1 h1 R1 E1 p1 => ?_
    cases e : tru d with
    | none => rw [e] at h1; exact False.elim h1
    | some k =>
      rw [e] at h1
      refine ⟨k, tru_ok (.purI p1) e, ?_⟩
      cases k with
      | true => exact h1 v H1 O1 R1 E1 p1
      | false => exact tE_step R1 (bxm E1 h1) fun b r2 v2 H2 O2 h2 R2 E2 => h2 v2 H2 O2 R2 (E1.trans E2)
theorem ce_not (h : CE X W ms a e1) : CE X W ms (.UnaryOp .Not a pos) (eNot e1) :=
  (pe_notT h).weak fun σ H Q ⟨r, O, G, R, h⟩ => by
    unfold eNot at h
    rw [on_bind] at h
    refine tE_step R h fun d r1 v H1 O1 h1 R1 E1 p1 => ?_
    cases e : tru d with
    | none => rw [e] at h1; exact False.elim h1
    | some k =>
      rw [e] at h1
      exact ⟨k, tru_ok (.purI p1) e, h1 _ H1 O1 R1 E1 (.bl _)⟩
def eIf (t : Rho → R Bool) (f g : Rho → R D) : Rho → R D := fun r => (t r).bind fun b r1 => if b = true then f r1 else g r1
theorem ce_if (hc : CT X W ms c t1) (ha : CE X W ms a e1) (hb : CE X W ms b e2) : CE X W ms (.IfExp c a b pos) (eIf t1 e1 e2) :=
  (pe_ifExp hc ha hb).weak fun σ H Q ⟨r, O, G, R, h⟩ => by
    unfold eIf at h
    rw [on_bind] at h
    refine tT_step R h fun b r1 H1 O1 h1 R1 E1 => ?_
    cases b with
    | true => exact tE_step R1 (bxm E1 h1) fun b r2 v2 H2 O2 h2 R2 E2 => h2 v2 H2 O2 R2 (E1.trans E2)
    | false => exact tE_step R1 (bxm E1 h1) fun b r2 v2 H2 O2 h2 R2 E2 => h2 v2 H2 O2 R2 (E1.trans E2)
end

/-! ## argument lists, displays -/
def aNil : Rho → R (List Opd) := fun r => .ok [] r
def aCons (f : Rho → R Opd) (g : Rho → R (List Opd)) : Rho → R (List Opd) := fun r => (f r).bind fun o r1 => (g r1).bind fun os r2 => .ok (o :: os) r2
def gets (r : Rho) : List Opd → Option (List D)
  | [] => some []
  | o :: os => (o.get r).bind fun d => (gets r os).bind fun ds => some (d :: ds)
inductive RepBs (K : PySem.W.Frag) (M H : Hp) : List V → List D → Prop
  | nil : RepBs K M H [] []
  | cons {v : V} {vs : List V} {d : D} {ds : List D} : RepB K M H v d → RepBs K M H vs ds → RepBs K M H (v :: vs) (d :: ds)
theorem RepOs.gets {w : World} {K : PySem.W.Frag} {ms : Ms} {σ : L2.St} {H : Hp} {r : Rho} {O : Own} {G : Gh} (R : Rel w K ms σ H r O G) : ∀ {vs : List V} {os : List Opd} {ds : List D}, RepOs K (msk H (Ow O G)) σ vs os → DL.gets r os = some ds → RepBs K (msk H (Ow O G)) H vs ds
  | _, _, _, .nil, e => by cases e; exact .nil
  | _, _, _, .cons a b, e => by
    obtain ⟨d, e1, e⟩ := bind_some e
    obtain ⟨ds, e2, e⟩ := bind_some e
    cases e
    exact .cons (a.get R e1) (RepOs.gets R b e2)
/-- all of them pure values -/
def vals : List Opd → Option (List D)
  | [] => some []
  | .val d :: os => (vals os).bind fun ds => some (d :: ds)
  | .slot _ :: _ => none
theorem RepOs.vals {K : PySem.W.Frag} {M : Hp} {σ : L2.St} : ∀ {vs : List V} {os : List Opd} {ds : List D}, RepOs K M σ vs os → DL.vals os = some ds → RepAll K M vs ds
  | _, _, _, .nil, e => by cases e; exact .nil
  | _, _, _, .cons (o := o) a b, e => by
    cases o with
    | val d =>
      obtain ⟨ds, e2, e⟩ := bind_some e
      cases e
      exact .cons a (RepOs.vals b e2)
    | slot i => cases e
section
variable {X : Cx} {W : WX} {ms : Ms} {rs : Shp} {a b c : Expr} {es : List Expr} {f g k : Rho → R Opd} {as : Rho → R (List Opd)} {pos : Pos}
theorem ca_nil : CA X W ms [] aNil := pa_nil.weak fun σ H Q ⟨r, O, G, R, h⟩ => h [] H O R .refl .nil
theorem ca_cons (ha : CO X W ms a f) (hr : CA X W ms es as) (hs : starEach (a :: es) X.env = (false, eval a X.env) :: starEach es X.env := by rfl) : CA X W ms (a :: es) (aCons f as) :=
  (pa_cons ha hr hs).weak fun σ H Q ⟨r, O, G, R, h⟩ => by
    unfold aCons at h
    rw [on_bind] at h
    refine tO_step R h fun o r1 v H1 O1 h1 R1 E1 p1 => ?_
    rw [on_bind] at h1
    refine tA_step R1 (bxm E1 h1) fun os r2 vs H2 O2 h2 R2 E2 p2 => ?_
    exact h2 _ H2 O2 R2 (E1.trans E2) (.cons (p1.mono E2.sm) p2)
def eTup (as : Rho → R (List Opd)) : Rho → R D := fun r => (as r).bind fun os r1 => .ofO ((vals os).bind fun ds => if ds.length ≤ sizeLine then some (.tuple ds) else none) r1
def eLst (as : Rho → R (List Opd)) : Rho → R D := fun r => (as r).bind fun os r1 => .ofO ((vals os).bind fun ds => if ds.length ≤ sizeLine then some (.list ds) else none) r1
theorem ce_tup {x1 : Nat} (h : CA X W ms es as) : CE X W ms (.Tuple es x1 pos) (eTup as) :=
  (pe_tup h).weak fun σ H Q ⟨r, O, G, R, h⟩ => by
    unfold eTup at h
    rw [on_bind] at h
    refine tA_step R h fun os r1 vs H1 O1 h1 R1 E1 p1 => ?_
    obtain ⟨d, e, h1⟩ := on_ofO h1
    obtain ⟨ds, e1, e⟩ := bind_some e
    obtain ⟨hz, rfl⟩ := ite_some e
    have rp := p1.vals e1
    refine ⟨by rw [rp.len]; exact hz, fun p hp => ?_⟩
    have sm : Same H1 (upd H1 p (.tup vs)) := fun b u e => by rw [upd_ne (ne_of_none e hp)]; exact e
    exact h1 _ _ O1 (R1.same sm) (E1.trans (.same sm R1.tr)) (.tup (.inl (.inl (msk_mk (R1.nowned hp) upd_same))) (rp.mono (msk_same sm)))
theorem own_new {σ : L2.St} {r : Rho} {O : Own} {G : Gh} {H : Hp} {p : Addr} {vs : List V} {ds : List D} (R : Rel X.w X.K ms σ H r O G) (hp : H p = none) (rp : RepAll X.K (msk H (Ow O G)) vs ds) :
    Rel X.w X.K ms σ (upd H p (.lst vs)) r O (GA [p] G) ∧ Ext H O G (upd H p (.lst vs)) O (GA [p] G) ∧ (∀ a ∈ [p], ¬ G a) ∧ RepS X.w X.K (msk (upd H p (.lst vs)) (Ow O (GA [p] G))) (upd H p (.lst vs)) .lst (.ref p) (.list ds) [p] := by
  obtain ⟨R2, E2⟩ := R.guard (o := .lst vs) hp
  refine ⟨R2, E2, fun a ha g => R.tr a g (by rw [List.mem_singleton.mp ha]; exact hp), .lst upd_same (rp.mono E2.sm)⟩
theorem ceo_lst (h : CA X W ms es as) : CEo X W ms .lst (.List es pos) (eLst as) :=
  (pe_lst h).weak fun σ H Q ⟨r, O, G, R, h⟩ => by
    unfold eLst at h
    rw [on_bind] at h
    refine tA_step R h fun os r1 vs H1 O1 h1 R1 E1 p1 => ?_
    obtain ⟨d, e, h1⟩ := on_ofO h1
    obtain ⟨ds, e1, e⟩ := bind_some e
    obtain ⟨hz, rfl⟩ := ite_some e
    have rp := p1.vals e1
    refine ⟨by rw [rp.len]; exact hz, fun p hp => ?_⟩
    obtain ⟨R2, E2, n, rs⟩ := own_new R1 hp rp
    exact h1 _ _ O1 [p] R2 (E1.trans E2) n rs
end

/-! ## calls of built-ins -/
/-- a pure value out -/
def SemC (X : Cx) (r : List V → Hp → VK → Prop) (sem : List D → Option D) : Prop := ∀ (xs : List V) (ds : List D) (d : D) (H : Hp) (W : Gh) (Q : VK), RepBs X.K (msk H W) H xs ds → (∀ p, W p → H p ≠ none) → sem ds = some d →
  (∀ v H', Same H H' → Rep X.K (msk H' W) v d → Q v H') → r xs H Q
/-- a new list out -/
def SemL (X : Cx) (r : List V → Hp → VK → Prop) (sem : List D → Option (List D)) : Prop := ∀ (xs : List V) (ds es : List D) (H : Hp) (W : Gh) (Q : VK), RepBs X.K (msk H W) H xs ds → (∀ p, W p → H p ≠ none) → sem ds = some es →
  (∀ vs H' p, Same H H' → H' p = none → RepAll X.K (msk H' W) vs es → Q (.ref p) (upd H' p (.lst vs))) → r xs H Q
def eCall (sem : List D → Option D) (as : Rho → R (List Opd)) : Rho → R D := fun r => (as r).bind fun os r1 => .ofO ((gets r1 os).bind sem) r1
def eCallL (sem : List D → Option (List D)) (as : Rho → R (List Opd)) : Rho → R D := fun r => (as r).bind fun os r1 => .ofO ((gets r1 os).bind fun ds => (sem ds).bind fun es => some (.list es)) r1
section
variable {X : Cx} {W : WX} {ms : Ms} {rs : Shp} {e o : Expr} {es : List Expr} {f : Rho → R Opd} {as : Rho → R (List Opd)} {pos p apos : Pos} {x name : Str} {r : List V → Hp → VK → Prop} {id T : String} {sem : List D → Option D} {semL : List D → Option (List D)}
theorem call_read (hs : SemC X r sem) {σ : L2.St} {H : Hp} {Q : VK} (h : tE X W ms (eCall sem as) σ H Q) : tCB r (tA X W ms as) σ H Q := by
  obtain ⟨ρ, O, G, R, h⟩ := h
  unfold eCall at h
  rw [on_bind] at h
  refine tA_step R h fun os r1 vs H1 O1 h1 R1 E1 p1 => ?_
  obtain ⟨d, e, h1⟩ := on_ofO h1
  obtain ⟨ds, e1, e⟩ := bind_some e
  exact hs vs ds d H1 (Ow O1 G) Q (p1.gets R1 e1) R1.trO e fun v H' sm rp => h1 v H' O1 (R1.same sm) (E1.trans (.same sm R1.tr)) rp
theorem callL_read (hs : SemL X r semL) {σ : L2.St} {H : Hp} {Q : VK} (h : tEo X W ms .lst (eCallL semL as) σ H Q) : tCB r (tA X W ms as) σ H Q := by
  obtain ⟨ρ, O, G, R, h⟩ := h
  unfold eCallL at h
  rw [on_bind] at h
  refine tA_step R h fun os r1 vs H1 O1 h1 R1 E1 p1 => ?_
  obtain ⟨d, e, h1⟩ := on_ofO h1
  obtain ⟨ds, e1, e⟩ := bind_some e
  obtain ⟨es, e2, e⟩ := bind_some e
  cases e
  refine hs vs ds es H1 (Ow O1 G) Q (p1.gets R1 e1) R1.trO e2 fun vs' H' p sm hp rp => ?_
  obtain ⟨R2, E2, n, rs⟩ := own_new (R1.same sm) hp rp
  exact h1 _ _ O1 [p] R2 (E1.trans ((Ext.same sm R1.tr).trans E2)) n rs
theorem ce_callB (hc : CallR X (.builtin id) r) (hs : SemC X r sem) (hm : X.mg x = none) (hv : bootBuiltins x = some (.builtin id)) (ha : CA X W ms (e :: es) as) (hg : Gl X x := by rfl) (hn : x ≠ "__name__" := by decide) (hdb : (x == ("__debug__" : Str)) = false := by decide)
    (he : starEach (e :: es) X.env = (false, eval e X.env) :: starEach es X.env := by rfl) (hpl : (backTo pos (starEach es X.env)).any (·.1) = false := by rfl) : CE X W ms (.Call (.Name x p) (e :: es) [] pos) (eCall sem as) :=
  (pe_callB hc hg hm hv ha hn hdb he hpl).weak fun _ _ _ h => call_read hs h
theorem ce_callTy (hc : CallR X (.type T) r) (hs : SemC X r sem) (hm : X.mg x = none) (hv : bootBuiltins x = some (.type T)) (ha : CA X W ms (e :: es) as) (hg : Gl X x := by rfl) (hn : x ≠ "__name__" := by decide) (hdb : (x == ("__debug__" : Str)) = false := by decide)
    (he : starEach (e :: es) X.env = (false, eval e X.env) :: starEach es X.env := by rfl) (hpl : (backTo pos (starEach es X.env)).any (·.1) = false := by rfl) : CE X W ms (.Call (.Name x p) (e :: es) [] pos) (eCall sem as) :=
  (pe_callTy hc hg hm hv ha hn hdb he hpl).weak fun _ _ _ h => call_read hs h
theorem ceo_callB (hc : CallR X (.builtin id) r) (hs : SemL X r semL) (hm : X.mg x = none) (hv : bootBuiltins x = some (.builtin id)) (ha : CA X W ms (e :: es) as) (hg : Gl X x := by rfl) (hn : x ≠ "__name__" := by decide) (hdb : (x == ("__debug__" : Str)) = false := by decide)
    (he : starEach (e :: es) X.env = (false, eval e X.env) :: starEach es X.env := by rfl) (hpl : (backTo pos (starEach es X.env)).any (·.1) = false := by rfl) : CEo X W ms .lst (.Call (.Name x p) (e :: es) [] pos) (eCallL semL as) :=
  (pe_callB hc hg hm hv ha hn hdb he hpl).weak fun _ _ _ h => callL_read hs h
theorem ceo_callTy (hc : CallR X (.type T) r) (hs : SemL X r semL) (hm : X.mg x = none) (hv : bootBuiltins x = some (.type T)) (ha : CA X W ms (e :: es) as) (hg : Gl X x := by rfl) (hn : x ≠ "__name__" := by decide) (hdb : (x == ("__debug__" : Str)) = false := by decide)
    (he : starEach (e :: es) X.env = (false, eval e X.env) :: starEach es X.env := by rfl) (hpl : (backTo pos (starEach es X.env)).any (·.1) = false := by rfl) : CEo X W ms .lst (.Call (.Name x p) (e :: es) [] pos) (eCallL semL as) :=
  (pe_callTy hc hg hm hv ha hn hdb he hpl).weak fun _ _ _ h => callL_read hs h
/-! methods of built-in types whose receiver is not changed: the receiver is the first of the values -/
def tyD (T : String) : D → Bool
  | .str _ => T == "str"
  | .list _ => T == "list"
  | _ => false
theorem ty_ok {K : PySem.W.Frag} {H : Hp} {W : Gh} {v : V} {d : D} (h : RepB K (msk H W) H v d) (e : tyD T d = true) : tyV K T v H := by
  cases d with
  | str s =>
    have e : (T == "str") = true := e
    rw [h.strI, eq_of_beq e]
    rfl
  | list xs =>
    have e : (T == "list") = true := e
    obtain ⟨a, ys, rfl, q, r⟩ := h.lstI
    exact .inl ⟨eq_of_beq e, ys, .inl q⟩
  | _ => cases e
/-- o.m(e, ..) -/
def SemM (X : Cx) (r : V → List V → Hp → VK → Prop) (sem : D → List D → Option D) : Prop := ∀ (x : V) (c : D) (xs : List V) (ds : List D) (d : D) (H : Hp) (W : Gh) (Q : VK), RepB X.K (msk H W) H x c → RepBs X.K (msk H W) H xs ds → (∀ p, W p → H p ≠ none) → sem c ds = some d →
  (∀ v H', Same H H' → Rep X.K (msk H' W) v d → Q v H') → r x xs H Q
def SemML (X : Cx) (r : V → List V → Hp → VK → Prop) (sem : D → List D → Option (List D)) : Prop := ∀ (x : V) (c : D) (xs : List V) (ds es : List D) (H : Hp) (W : Gh) (Q : VK), RepB X.K (msk H W) H x c → RepBs X.K (msk H W) H xs ds → (∀ p, W p → H p ≠ none) → sem c ds = some es →
  (∀ vs H' p, Same H H' → H' p = none → RepAll X.K (msk H' W) vs es → Q (.ref p) (upd H' p (.lst vs))) → r x xs H Q
def eMeth (T : String) (sem : D → List D → Option D) (f : Rho → R Opd) (as : Rho → R (List Opd)) : Rho → R D := fun r => (f r).bind fun o r1 => match (o.get r1).map (tyD T) with
  | some true => (as r1).bind fun os r2 => .ofO ((o.get r2).bind fun c => (gets r2 os).bind fun ds => sem c ds) r2
  | _ => .bad
def eMethL (T : String) (sem : D → List D → Option (List D)) (f : Rho → R Opd) (as : Rho → R (List Opd)) : Rho → R D := fun r => (f r).bind fun o r1 => match (o.get r1).map (tyD T) with
  | some true => (as r1).bind fun os r2 => .ofO ((o.get r2).bind fun c => (gets r2 os).bind fun ds => (sem c ds).bind fun es => some (.list es)) r2
  | _ => .bad
theorem map_true {o : Option D} (h : ∀ b, o.map (tyD T) = some b → b = true → False) : True := trivial
theorem ty_of {o : Option D} (h : o.map (tyD T) = some true) : ∃ d, o = some d ∧ tyD T d = true := by
  cases o with
  | none => cases h
  | some d => exact ⟨d, rfl, Option.some.inj h⟩
variable {rm : V → List V → Hp → VK → Prop} {semM : D → List D → Option D} {semML : D → List D → Option (List D)}
theorem ce_meth (pa : PlainAttrs T) (slot : Slot T name id) (hty : typeOf (.builtin id) = pure (.type "method_descriptor")) (hm : MtR X id rm) (hs : SemM X rm semM) (ho : CO X W ms o f) (ha : CA X W ms (e :: es) as)
    (hbase : attributeBase o name X.env (eval o X.env) = eval o X.env := by rfl)
    (hfew : ((backTo pos (starEach (e :: es) X.env)).all (fun x => !x.1) && (backToKw pos (keywordEach [] X.env)).all (fun x => x.1.isSome)
      && decide ((e :: es).length + ([] : List Keyword).length + (if ([] : List Keyword).isEmpty then 0 else 1) < 30)) = true := by rfl)
    (hline : (apos.endLine == pos.line) = true := by rfl) (hss : starEach (e :: es) X.env = (false, eval e X.env) :: starEach es X.env := by rfl) (hplain : (backTo pos (starEach es X.env)).any (·.1) = false := by rfl) :
    CE X W ms (.Call (.Attribute o name apos) (e :: es) [] pos) (eMeth T semM f as) :=
  (pe_bm pa slot hty hm ho ha hbase hfew hline hss hplain).weak fun σ H Q ⟨r, O, G, R, h⟩ => by
    unfold eMeth at h
    rw [on_bind] at h
    refine tO_step R h fun o1 r1 v H1 O1 h1 R1 E1 p1 => ?_
    split at h1
    · rename_i q
      obtain ⟨d, ed, q⟩ := ty_of q
      refine ⟨ty_ok (p1.get R1 ed) q, ?_⟩
      rw [on_bind] at h1
      refine tA_step R1 (bxm E1 h1) fun os r2 vs H2 O2 h2 R2 E2 p2 => ?_
      obtain ⟨d2, e, h2⟩ := on_ofO h2
      obtain ⟨c, ec, e⟩ := bind_some e
      obtain ⟨ds, e1, e⟩ := bind_some e
      exact hs v c vs ds d2 H2 (Ow O2 G) Q ((p1.mono E2.sm).get R2 ec) (p2.gets R2 e1) R2.trO e fun u H' sm rp => h2 u H' O2 (R2.same sm) (E1.trans (E2.trans (.same sm R2.tr))) rp
    · exact False.elim h1
theorem ceo_meth (pa : PlainAttrs T) (slot : Slot T name id) (hty : typeOf (.builtin id) = pure (.type "method_descriptor")) (hm : MtR X id rm) (hs : SemML X rm semML) (ho : CO X W ms o f) (ha : CA X W ms (e :: es) as)
    (hbase : attributeBase o name X.env (eval o X.env) = eval o X.env := by rfl)
    (hfew : ((backTo pos (starEach (e :: es) X.env)).all (fun x => !x.1) && (backToKw pos (keywordEach [] X.env)).all (fun x => x.1.isSome)
      && decide ((e :: es).length + ([] : List Keyword).length + (if ([] : List Keyword).isEmpty then 0 else 1) < 30)) = true := by rfl)
    (hline : (apos.endLine == pos.line) = true := by rfl) (hss : starEach (e :: es) X.env = (false, eval e X.env) :: starEach es X.env := by rfl) (hplain : (backTo pos (starEach es X.env)).any (·.1) = false := by rfl) :
    CEo X W ms .lst (.Call (.Attribute o name apos) (e :: es) [] pos) (eMethL T semML f as) :=
  (pe_bm pa slot hty hm ho ha hbase hfew hline hss hplain).weak fun σ H Q ⟨r, O, G, R, h⟩ => by
    unfold eMethL at h
    rw [on_bind] at h
    refine tO_step R h fun o1 r1 v H1 O1 h1 R1 E1 p1 => ?_
    split at h1
    · rename_i q
      obtain ⟨d, ed, q⟩ := ty_of q
      refine ⟨ty_ok (p1.get R1 ed) q, ?_⟩
      rw [on_bind] at h1
      refine tA_step R1 (bxm E1 h1) fun os r2 vs H2 O2 h2 R2 E2 p2 => ?_
      obtain ⟨d2, e, h2⟩ := on_ofO h2
      obtain ⟨c, ec, e⟩ := bind_some e
      obtain ⟨ds, e1, e⟩ := bind_some e
      obtain ⟨es, e2, e⟩ := bind_some e
      cases e
      refine hs v c vs ds es H2 (Ow O2 G) Q ((p1.mono E2.sm).get R2 ec) (p2.gets R2 e1) R2.trO e2 fun us H' p sm hp rp => ?_
      obtain ⟨R3, E3, n, rs⟩ := own_new (R2.same sm) hp rp
      exact h2 _ _ O2 [p] R3 (E1.trans (E2.trans ((Ext.same sm R2.tr).trans E3))) n rs
    · exact False.elim h1
/-! a method that changes a list of one's own in a slot: append, extend, pop, reverse -/
/-- what the list becomes, and what is handed back -/
def SemX (X : Cx) (r : V → List V → Hp → VK → Prop) (sem : List D → List D → Option (List D × D)) : Prop := ∀ (a : Addr) (vs : List V) (cs : List D) (xs : List V) (ds es : List D) (d : D) (H : Hp) (W : Gh) (Q : VK), H a = some (.lst vs) → W a → RepAll X.K (msk H W) vs cs → RepAll X.K (msk H W) xs ds → sem cs ds = some (es, d) →
  (∀ v ws, RepAll X.K (msk H W) ws es → Rep X.K (msk H W) v d → Q v (upd H a (.lst ws))) → r (.ref a) xs H Q
def eMut (i : Nat) (sem : List D → List D → Option (List D × D)) (as : Rho → R (List Opd)) : Rho → R D := fun r => match (r[i]?).join with
  | some (.list _) => (as r).bind fun os r2 => match (r2[i]?).join with
    | some (.list cs) => match (vals os).bind fun ds => sem cs ds with
      | some (es, d) => .ok d (r2.set i (some (.list es)))
      | none => .bad
    | _ => .bad
  | _ => .bad
variable {semX : List D → List D → Option (List D × D)}
theorem mut_read {i : Nat} {σ : L2.St} {H : Hp} {Q : VK} (hi : (ms i).sh = .lst) (hs : SemX X rm semX) (h : tE X W ms (eMut i semX as) σ H Q) : ∃ v, σ[i]? = some (some v) ∧ tyV X.K "list" v H ∧ tA X W ms as σ H fun xs H2 => rm v xs H2 Q := by
  obtain ⟨r, O, G, R, h⟩ := h
  unfold eMut at h
  cases e0 : (r[i]?).join with
  | none => rw [e0] at h; exact False.elim h
  | some d0 =>
    rw [e0] at h
    cases d0 with
    | list c0 =>
      obtain ⟨v, ev, rs⟩ := R.slot i _ (join_some e0)
      rw [hi] at rs
      obtain ⟨a, vs0, ds0, rfl, _, eA, ha0, _⟩ := rs.lstI
      refine ⟨_, ev, .inl ⟨rfl, vs0, .inl (.inl ha0)⟩, ?_⟩
      simp only at h
      rw [on_bind] at h
      refine tA_step R h fun os r2 xs H2 O2 h2 R2 E2 p2 => ?_
      cases e1 : (r2[i]?).join with
      | none => rw [e1] at h2; exact False.elim h2
      | some d1 =>
        rw [e1] at h2
        cases d1 with
        | list cs =>
          simp only at h2
          cases e2 : (vals os).bind fun ds => semX cs ds with
          | none => rw [e2] at h2; exact False.elim h2
          | some q =>
            obtain ⟨es, d⟩ := q
            rw [e2] at h2
            obtain ⟨ds, e3, e4⟩ := bind_some e2
            obtain ⟨v2, ev2, rs2⟩ := R2.slot i _ (join_some e1)
            rw [hi] at rs2
            obtain ⟨a2, vs2, ds2, rfl, ed, eA2, ha2, ra2⟩ := rs2.lstI
            rw [ev] at ev2
            cases ev2
            cases ed
            refine hs a vs2 cs xs ds es d H2 (Ow O2 G) Q ha2 (.inr ⟨i, by rw [eA2]; exact List.mem_cons_self⟩) ra2 (p2.vals e3) e4 fun v ws rw' rd => ?_
            obtain ⟨R3, E3⟩ := R2.mut (vs := vs2) (vs' := ws) hi (join_some e1) eA2 rw'
            exact h2 v _ O2 R3 (E2.trans E3) (Rep.mono E3.sm rd)
        | _ => exact False.elim h2
    | _ => exact False.elim h
theorem ce_mut {i : Nat} {y : Str} {ypos : Pos} (hi : (ms i).sh = .lst) (slot : Slot "list" name id) (hty : typeOf (.builtin id) = pure (.type "method_descriptor")) (hm : MtR X id rm) (hs : SemX X rm semX) (ha : CA X W ms (e :: es) as)
    (hN : X.N[i]? = some y := by rfl) (hv : Vis X.env.scope y := by first | exact Or.inl rfl | exact Or.inr (Or.inl rfl) | exact Or.inr (Or.inr rfl)) (hd : (y == ("__debug__" : Str)) = false := by decide) (hcd : (y == ("__classdict__" : Str)) = false := by decide)
    (hbase : attributeBase (.Name y ypos) name X.env (eval (.Name y ypos) X.env) = eval (.Name y ypos) X.env := by rfl)
    (hfew : ((backTo pos (starEach (e :: es) X.env)).all (fun x => !x.1) && (backToKw pos (keywordEach [] X.env)).all (fun x => x.1.isSome)
      && decide ((e :: es).length + ([] : List Keyword).length + (if ([] : List Keyword).isEmpty then 0 else 1) < 30)) = true := by rfl)
    (hline : (apos.endLine == pos.line) = true := by rfl) (hss : starEach (e :: es) X.env = (false, eval e X.env) :: starEach es X.env := by rfl) (hplain : (backTo pos (starEach es X.env)).any (·.1) = false := by rfl) :
    CE X W ms (.Call (.Attribute (.Name y ypos) name apos) (e :: es) [] pos) (eMut i semX as) :=
  (pe_bm PySem.F.plainAttrs_list slot hty hm (pe_var hN hv hd hcd) ha hbase hfew hline hss hplain).weak fun σ H Q h => by
    obtain ⟨v, e1, e2, e3⟩ := mut_read hi hs h
    exact ⟨v, e1, e2, e3⟩
theorem ce_mut0 {i : Nat} {y : Str} {ypos : Pos} (hi : (ms i).sh = .lst) (slot : Slot "list" name id) (hty : typeOf (.builtin id) = pure (.type "method_descriptor")) (hm : MtR X id rm) (hs : SemX X rm semX)
    (hN : X.N[i]? = some y := by rfl) (hv : Vis X.env.scope y := by first | exact Or.inl rfl | exact Or.inr (Or.inl rfl) | exact Or.inr (Or.inr rfl)) (hd : (y == ("__debug__" : Str)) = false := by decide) (hcd : (y == ("__classdict__" : Str)) = false := by decide)
    (hbase : attributeBase (.Name y ypos) name X.env (eval (.Name y ypos) X.env) = eval (.Name y ypos) X.env := by rfl) (hline : (apos.endLine == pos.line) = true := by rfl) :
    CE X W ms (.Call (.Attribute (.Name y ypos) name apos) [] [] pos) (eMut i semX aNil) :=
  (pe_bm0 PySem.F.plainAttrs_list slot hty hm (pe_var hN hv hd hcd) hbase hline).weak fun σ H Q h => by
    obtain ⟨v, e1, e2, e3⟩ := mut_read hi hs h
    obtain ⟨r2, O2, G2, R2, e3⟩ := e3
    exact ⟨v, e1, e2, e3 [] H O2 R2 .refl .nil⟩
end
end DL
end

section
set_option maxHeartbeats 1000000
namespace DL
open PySem PySem.Spec PyProof.Rows L2

/-! ## statements -/
def SR.bind (s : SR) (k : Rho → SR) : SR := match s with
  | .nx r => k r
  | .rt d r => .rt d r
  | .bk r => .bk r
  | .ct r => .ct r
  | .exc c x r => .exc c x r
  | .bad => .bad
def R.toS {α : Type} (r : R α) (k : α → Rho → SR) : SR := match r with
  | .ok a r => k a r
  | .exc c x r => .exc c x r
  | .bad => .bad
section
variable {X : Cx} {W : WX} {ms : Ms} {rs : Shp} {σ σ1 : L2.St} {H H1 : Hp} {r r1 : Rho} {O O1 : Own} {G : Gh} {E : Ends}
theorem SOn.mono {σ1 : L2.St} (e : Ext H O G H1 O1 G) (f : Fx ms σ σ1) {s : SR} (h : SOn X W ms rs E σ H O G s) : SOn X W ms rs E σ1 H1 O1 G s := by
  cases s with
  | nx r' => exact fun σ' H' O' R e' f' => h σ' H' O' R (e.trans e') (f.trans f')
  | bk r' => exact fun σ' H' O' R e' f' => h σ' H' O' R (e.trans e') (f.trans f')
  | ct r' => exact fun σ' H' O' R e' f' => h σ' H' O' R (e.trans e') (f.trans f')
  | rt d r' => exact fun v σ' H' O' A R e' n f' q => h v σ' H' O' A R (e.trans e') n (f.trans f') q
  | exc c x r' => exact fun cv dx σ' H' O' R e' f' q => h cv dx σ' H' O' R (e.trans e') (f.trans f') q
  | bad => exact h
/-- from an expression's result to a statement's -/
theorem toS_on {α : Type} {x : R α} {k : α → Rho → SR} (h : SOn X W ms rs E σ H O G (x.toS k)) : x.on (fun a r' => SOn X W ms rs E σ H O G (k a r')) (Bx X W ms σ H O G) := by
  cases x with
  | ok a r' => exact h
  | exc c y r' => exact fun cv dx H' O' R e q => h cv dx σ H' O' R e Fx.refl q
  | bad => exact h
theorem tS_step {g : Rho → SR} {k : Rho → SR} (h : Rel X.w X.K ms σ H r O G) (hh : SOn X W ms rs E σ H O G ((g r).bind k)) {N : L2.St → Hp → Prop}
    (q : ∀ r' σ' H' O', SOn X W ms rs E σ H O G (k r') → Rel X.w X.K ms σ' H' r' O' G → Ext H O G H' O' G → Fx ms σ σ' → N σ' H') : tS X W ms rs g { E with nx := N } σ H := by
  refine ⟨r, O, G, h, ?_⟩
  cases e : g r with
  | nx r' => rw [e] at hh; exact fun σ' H' O' R' e' f' => q r' σ' H' O' hh R' e' f'
  | rt d r' => rw [e] at hh; exact hh
  | bk r' => rw [e] at hh; exact hh
  | ct r' => rw [e] at hh; exact hh
  | exc c x r' => rw [e] at hh; exact hh
  | bad => rw [e] at hh; exact hh
def sNil : Rho → SR := fun r => .nx r
def sSeq (g k : Rho → SR) : Rho → SR := fun r => (g r).bind k
theorem css_nil : CSs X W ms rs [] sNil := pss_nil.weak fun E σ H ⟨r, O, G, R, h⟩ => h σ H O R .refl .refl
theorem css_cons {st : Stmt} {rest : List Stmt} {g k : Rho → SR} (h1 : CS X W ms rs st g) (h2 : CSs X W ms rs rest k) : CSs X W ms rs (st :: rest) (sSeq g k) :=
  (pss_cons h1 h2).weak fun E σ H ⟨r, O, G, R, h⟩ => by
    unfold sSeq at h
    exact tS_step R h fun r' σ' H' O' hk R' e' f' => ⟨r', O', G, R', hk.mono e' f'⟩
theorem css_one {st : Stmt} {g : Rho → SR} (h1 : CS X W ms rs st g) : CSs X W ms rs [st] g := pss_one h1
def sPass : Rho → SR := fun r => .nx r
theorem cs_pass {pos : Pos} : CS X W ms rs (.Pass pos) sPass := ps_pass.weak fun E σ H ⟨r, O, G, R, h⟩ => h σ H O R .refl .refl
def sBreak : Rho → SR := fun r => .bk r
theorem cs_break {pos : Pos} : CS X W ms rs (.Break pos) sBreak := ps_break.weak fun E σ H ⟨r, O, G, R, h⟩ => h σ H O R .refl .refl
def sCont : Rho → SR := fun r => .ct r
theorem cs_continue {pos : Pos} : CS X W ms rs (.Continue pos) sCont := ps_continue.weak fun E σ H ⟨r, O, G, R, h⟩ => h σ H O R .refl .refl
theorem cs_doc {x : Str} {j : Nat} {pos pos' : Pos} : CS X W ms rs (.Expr (.Constant (.str x) j pos) pos') sPass := ps_doc.weak fun E σ H ⟨r, O, G, R, h⟩ => h σ H O R .refl .refl
def sExpr (f : Rho → R D) : Rho → SR := fun r => (f r).toS fun _ r1 => .nx r1
theorem cs_expr {e : Expr} {f : Rho → R D} {pos : Pos} (h : CE X W ms e f) (hs : swapsWith e none pos.line X.env = pure false := by rfl) : CS X W ms rs (.Expr e pos) (sExpr f) :=
  (ps_expr h hs).weak fun E σ H ⟨r, O, G, R, h⟩ => tE_step R (toS_on h) fun d r' v H' O' q R' e' _ => q σ H' O' R' e' .refl
def sRet (f : Rho → R D) : Rho → SR := fun r => (f r).toS fun d r1 => .rt d r1
theorem ga_nil {G : Gh} : GA [] G = G := funext fun a => propext ⟨fun h => h.elim (fun z => nomatch z) id, .inr⟩
theorem cs_ret {e : Expr} {f : Rho → R D} {pos : Pos} (h : CE X W ms e f) : CS X W ms .pur (.Return (some e) pos) (sRet f) :=
  (ps_ret h).weak fun E σ H ⟨r, O, G, R, h⟩ => tE_step R (toS_on h) fun d r' v H' O' q R' e' rp => q v σ H' O' [] (by rw [ga_nil]; exact R') (by rw [ga_nil]; exact e') (fun _ z => nomatch z) .refl (by rw [ga_nil]; exact .pur rp)
theorem cs_retO {sh : Shp} {e : Expr} {f : Rho → R D} {pos : Pos} (h : CEo X W ms sh e f) : CS X W ms sh (.Return (some e) pos) (sRet f) :=
  (ps_ret h).weak fun E σ H ⟨r, O, G, R, h⟩ => tEo_step R (toS_on h) fun d r' v H' O' A q R' e' n rp => q v σ H' O' A R' e' n .refl rp
def sRetN : Rho → SR := fun r => .rt .none r
theorem cs_retN {pos : Pos} : CS X W ms .pur (.Return none pos) sRetN :=
  ps_retN.weak fun E σ H ⟨r, O, G, R, h⟩ => h .non σ H O [] (by rw [ga_nil]; exact R) (by rw [ga_nil]; exact .refl) (fun _ z => nomatch z) .refl (by rw [ga_nil]; exact .pur .non)
def sIf (t : Rho → R Bool) (g k : Rho → SR) : Rho → SR := fun r => (t r).toS fun b r1 => if b = true then g r1 else k r1
theorem cs_if {c : Expr} {a b : List Stmt} {t : Rho → R Bool} {g k : Rho → SR} {pos : Pos} (hc : CT X W ms c t) (ha : CSs X W ms rs a g) (hb : CSs X W ms rs b k) : CS X W ms rs (.If c a b pos) (sIf t g k) :=
  (ps_if hc ha hb).weak fun E σ H ⟨r, O, G, R, h⟩ => tT_step R (toS_on h) fun b r' H' O' q R' e' => by
    cases b with
    | true => exact ⟨r', O', G, R', q.mono e' .refl⟩
    | false => exact ⟨r', O', G, R', q.mono e' .refl⟩
/-! assignment -/
def sSet (i : Nat) (f : Rho → R D) : Rho → SR := fun r => (f r).toS fun d r1 => .nx (r1.set i (some d))
theorem fx_set {i : Nat} {v : V} (h : (ms i).fx = false) : Fx ms σ (σ.set i (some v)) := ⟨List.length_set, fun j hj => by
  rw [List.getElem?_set_ne]
  intro e
  subst e
  rw [h] at hj
  cases hj⟩
theorem loc_lt {i : Nat} {x : Str} (R : Rel X.w X.K ms σ H r O G) (hl : σ.length = X.N.length) (hN : X.N[i]? = some x) : i < r.length := by
  rw [R.len, hl]
  exact (List.getElem?_eq_some_iff.mp hN).1
/-- the slots are as many as the names -/
theorem _root_.L2.PS.lenW {X : Cx} {st : Stmt} {t t' : TS} (h : PS X st t) (w : ∀ D σ H, σ.length = X.N.length → t' D σ H → t D σ H) : PS X st t' := ⟨fun pins s σ H D I q => h.run pins s σ H D I (w D σ H I.len q)⟩
theorem _root_.L2.PE.lenW {X : Cx} {e : Expr} {t t' : TE} (h : PE X e t) (w : ∀ σ H Q, σ.length = X.N.length → t' σ H Q → t σ H Q) : PE X e t' := ⟨fun pins s σ H Q I q => h.run pins s σ H Q I (w σ H Q I.len q)⟩
theorem cs_set (i : Nat) {x : Str} {e : Expr} {f : Rho → R D} {pos pos' : Pos} (nd : X.N.Nodup) (he : CE X W ms e f) (hs : (ms i).sh = .pur := by rfl) (hf : (ms i).fx = false := by rfl) (hi : X.N[i]? = some x := by rfl) (hx : Loc X.env.scope x := by first | exact .inl rfl | exact .inr rfl)
    (hsw : swapsWith e (some (.Name x pos')) pos.line X.env = pure false := by rfl) (hfn : X.fn x = true ∨ X.env.scope.names.lookup x = some .local := by first | exact .inl rfl | exact .inr rfl | assumption) : CS X W ms rs (.Assign [.Name x pos'] e pos) (sSet i f) :=
  (ps_set nd hi hx he hsw hfn).lenW fun E σ H hl ⟨r, O, G, R, h⟩ => tE_step R (toS_on h) fun d r' v H' O' q R' e' rp => q (σ.set i (some v)) H' O' (R'.set hs (loc_lt R' hl hi) rp) e' (fx_set hf)
theorem cs_setO (i : Nat) {sh : Shp} {x : Str} {e : Expr} {f : Rho → R D} {pos pos' : Pos} (nd : X.N.Nodup) (he : CEo X W ms sh e f) (hs : (ms i).sh = sh := by rfl) (hf : (ms i).fx = false := by rfl) (hi : X.N[i]? = some x := by rfl) (hx : Loc X.env.scope x := by first | exact .inl rfl | exact .inr rfl)
    (hsw : swapsWith e (some (.Name x pos')) pos.line X.env = pure false := by rfl) (hfn : X.fn x = true ∨ X.env.scope.names.lookup x = some .local := by first | exact .inl rfl | exact .inr rfl | assumption) : CS X W ms rs (.Assign [.Name x pos'] e pos) (sSet i f) :=
  (ps_set nd hi hx he hsw hfn).lenW fun E σ H hl ⟨r, O, G, R, h⟩ => tEo_step R (toS_on h) fun d r' v H' O' A q R' e' n rp => by
    refine q (σ.set i (some v)) H' (updO O' i A) (R'.setOwn n (loc_lt R' hl hi) (by rw [hs]; exact rp)) ⟨e'.sm.trans (msk_less fun a z => ow_ga z), fun a g => ⟨g, (e'.gh a g).2⟩⟩ (fx_set hf)
/-- i op= e, a pure value -/
def sAug (i : Nat) (sem : D → D → Option D) (f : Rho → R Opd) : Rho → SR := fun r => match (r[i]?).join with
  | some x => (f r).toS fun o r1 => match (o.get r1).bind fun y => sem x y with
    | some d => .nx (r1.set i (some d))
    | none => .bad
  | none => .bad
/-- a op= b by values -/
def SemI (X : Cx) (r : TIp) (sem : D → D → Option D) : Prop := ∀ (x y : V) (a b d : D) (H : Hp) (W : Gh) (Q : VK), RepB X.K (msk H W) H x a → RepB X.K (msk H W) H y b → (∀ p, W p → H p ≠ none) → sem a b = some d →
  (∀ v H', Same H H' → Rep X.K (msk H' W) v d → Q v H') → r x y H Q
theorem cs_aug (i : Nat) {x : Str} {e : Expr} {f : Rho → R Opd} {op : Operator} {ti : TIp} {sem : D → D → Option D} {pos pos' : Pos} (nd : X.N.Nodup) (he : CO X W ms e f) (ho : PIp X op ti) (hse : SemI X ti sem) (hs : (ms i).sh = .pur := by rfl) (hf : (ms i).fx = false := by rfl) (hi : X.N[i]? = some x := by rfl)
    (hx : Loc X.env.scope x := by first | exact .inl rfl | exact .inr rfl) (hfn : X.fn x = true ∨ X.env.scope.names.lookup x = some .local := by first | exact .inl rfl | exact .inr rfl | assumption) : CS X W ms rs (.AugAssign (.Name x pos') op e pos) (sAug i sem f) :=
  (ps_aug nd hi hx he ho hfn).lenW fun E σ H hl ⟨r, O, G, R, h⟩ => by
    unfold sAug at h
    cases e0 : (r[i]?).join with
    | none => rw [e0] at h; exact False.elim h
    | some d0 =>
      rw [e0] at h
      obtain ⟨v0, ev, rp0⟩ := R.pur (join_some e0) hs
      refine ⟨v0, ev, tO_step R (toS_on h) fun o r1 v1 H1 O1 h1 R1 E1 p1 => ?_⟩
      cases e2 : (o.get r1).bind fun y => sem d0 y with
      | none => rw [e2] at h1; exact False.elim h1
      | some d =>
        rw [e2] at h1
        obtain ⟨y, ey, e3⟩ := bind_some e2
        refine hse v0 v1 d0 y d H1 (Ow O1 G) _ (.purI (rp0.mono E1.sm)) (p1.get R1 ey) R1.trO e3 fun v H' sm rp => ?_
        have R2 := R1.same sm
        exact h1 _ H' O1 (R2.set hs (loc_lt R2 hl hi) rp) (E1.trans (.same sm R1.tr)) (fx_set hf)
/-! targets: what a pure value becomes in the slots -/
def Only1 (is : List Nat) (σ σ' : L2.St) : Prop := ∀ j, j ∉ is → σ'[j]? = σ[j]?
def CG (X : Cx) (ms : Ms) (tg : Expr) (is : List Nat) (k : D → Rho → Option Rho) (g : TG) : Prop := PG X tg g ∧ ∀ {σ H r O G v d r'} {Q : L2.St → Hp → Prop}, Rel X.w X.K ms σ H r O G → σ.length = X.N.length → Rep X.K (msk H (Ow O G)) v d → k d r = some r' →
  (∀ σ', Rel X.w X.K ms σ' H r' O G → Fx ms σ σ' → Only1 is σ σ' → Q σ' H) → g v σ H Q
def CGs (X : Cx) (ms : Ms) (tgs : List Expr) (is : List Nat) (k : List D → Rho → Option Rho) (g : TGs) : Prop := PGs X tgs g ∧ ∀ {σ H r O G vs ds r'} {Q : L2.St → Hp → Prop}, Rel X.w X.K ms σ H r O G → σ.length = X.N.length → RepAll X.K (msk H (Ow O G)) vs ds → k ds r = some r' →
  (∀ σ', Rel X.w X.K ms σ' H r' O G → Fx ms σ σ' → Only1 is σ σ' → Q σ' H) → g vs σ H Q
def kName (i : Nat) : D → Rho → Option Rho := fun d r => some (r.set i (some d))
def kNil : List D → Rho → Option Rho := fun ds r => match ds with
  | [] => some r
  | _ => none
def kCons (k : D → Rho → Option Rho) (l : List D → Rho → Option Rho) : List D → Rho → Option Rho := fun ds r => match ds with
  | d :: ds => (k d r).bind fun r1 => l ds r1
  | [] => none
def kTup (n : Nat) (l : List D → Rho → Option Rho) : D → Rho → Option Rho := fun d r => match d with
  | .tuple ds => if ds.length = n then l ds r else none
  | _ => none
theorem cg_name (i : Nat) {x : Str} {pos : Pos} (nd : X.N.Nodup) (hs : (ms i).sh = .pur := by rfl) (hf : (ms i).fx = false := by rfl) (hi : X.N[i]? = some x := by rfl) (hx : Loc X.env.scope x := by first | exact .inl rfl | exact .inr rfl)
    (hfn : X.fn x = true ∨ X.env.scope.names.lookup x = some .local := by first | exact .inl rfl | exact .inr rfl | assumption) : CG X ms (.Name x pos) [i] (kName i) (gName i) :=
  ⟨pg_name nd hi hx hfn, fun {σ H r O G v d r' Q} R hl rp e q => by
    cases e
    exact q _ (R.set hs (loc_lt R hl hi) rp) (fx_set hf) fun j hj => List.getElem?_set_ne fun e => hj (by rw [e]; exact List.mem_cons_self)⟩
theorem cgs_nil : CGs X ms [] [] kNil gNil := ⟨pgs_nil, fun {σ H r O G vs ds r' Q} R hl rp e q => by
  cases rp with
  | nil => cases e; exact ⟨rfl, q σ R .refl fun _ _ => rfl⟩
  | cons _ _ => cases e⟩
theorem cgs_cons {e : Expr} {es : List Expr} {is js : List Nat} {k : D → Rho → Option Rho} {l : List D → Rho → Option Rho} {g : TG} {gs : TGs} (h1 : CG X ms e is k g) (h2 : CGs X ms es js l gs)
    (hs : (assignEach (e :: es) X.env).map (·.2) = assign e X.env :: (assignEach es X.env).map (·.2) := by rfl) : CGs X ms (e :: es) (is ++ js) (kCons k l) (gCons g gs) :=
  ⟨pgs_cons h1.1 h2.1 hs, fun {σ H r O G vs ds r' Q} R hl rp e q => by
    cases rp with
    | nil => cases e
    | cons a b =>
      obtain ⟨r1, e1, e2⟩ := bind_some e
      exact ⟨_, _, rfl, h1.2 R hl a e1 fun σ' R' f' o' => h2.2 R' (f'.len.trans hl) b e2 fun σ2 R2 f2 o2 => q σ2 R2 (f'.trans f2) fun j hj => (o2 j fun z => hj (List.mem_append_right _ z)).trans (o' j fun z => hj (List.mem_append_left _ z))⟩⟩
theorem cg_tup {es : List Expr} {is : List Nat} {k : Nat} {l : List D → Rho → Option Rho} {gs : TGs} {n : Nat} {pos : Pos} (hc : X.calm = true) (h : CGs X ms es is l gs)
    (hn : (assignEach es X.env).length = n := by rfl) (hst : (assignEach es X.env).findIdx? (·.1) = none := by rfl) : CG X ms (.Tuple es k pos) is (kTup n l) (gTup X.K n gs) :=
  ⟨pg_tup hc h.1 hn hst, fun {σ H r O G v d r' Q} R hl rp e q => by
    cases rp with
    | tup ht ra =>
      rename_i a xs ds
      have e : (if ds.length = n then l ds r else none) = some r' := e
      split at e
      · rename_i hz
        exact ⟨a, xs, rfl, DL.Same.tup msk_sub ht, by rw [ra.len]; exact hz, h.2 R hl ra e q⟩
      · cases e
    | _ => cases e⟩
def sAsg (k : D → Rho → Option Rho) (f : Rho → R D) : Rho → SR := fun r => (f r).toS fun d r1 => match k d r1 with
  | some r2 => .nx r2
  | none => .bad
theorem cs_asg {tg e : Expr} {is : List Nat} {k : D → Rho → Option Rho} {g : TG} {f : Rho → R D} {pos : Pos} (he : CE X W ms e f) (hg : CG X ms tg is k g) (hs : swapsWithSole [tg] e pos.line X.env = pure false := by rfl) (hw : swappedStores [tg] e X.env = pure none := by rfl)
    (h1 : (assignEach [tg] X.env).map (·.2) = [assign tg X.env] := by rfl) : CS X W ms rs (.Assign [tg] e pos) (sAsg k f) :=
  (ps_asg he hg.1 hs hw h1).lenW fun E σ H hl ⟨r, O, G, R, h⟩ => tE_step R (toS_on h) fun d r' v H' O' q R' e' rp => by
    cases e1 : k d r' with
    | none => rw [e1] at q; exact False.elim q
    | some r2 =>
      rw [e1] at q
      exact hg.2 R' hl rp e1 fun σ' R2 f2 _ => q σ' H' O' R2 e' f2
end
end DL
end

section
set_option maxHeartbeats 1000000
namespace DL
open PySem PySem.Spec PyProof.Rows L2

/-! ## what is walked -/
/-- J gives what stands for the items ds, one after another, while what stands in M stands -/
def WalkD (K : PySem.W.Frag) (J : It) (ds : List D) (M : Hp) : Prop := ∀ (H : Hp) (W : Gh), Same M (msk H W) → (∀ p, W p → H p ≠ none) →
  (∀ i d, ds[i]? = some d → J.go i H ∧ ∀ x H', J.yld i H x H' → Same H H' ∧ Rep K (msk H' W) x d) ∧ J.stop ds.length H
def tI (X : Cx) (W : WX) (ms : Ms) (f : Rho → R (List D)) : TI := fun σ H Z => ∃ r O G, Rel X.w X.K ms σ H r O G ∧
  (f r).on (fun ds r' => ∀ J H' O', Rel X.w X.K ms σ H' r' O' G → Ext H O G H' O' G → WalkD X.K J ds (msk H' (Ow O' G)) → Z J H') (Bx X W ms σ H O G)
abbrev CI (X : Cx) (W : WX) (ms : Ms) (tg e : Expr) (f : Rho → R (List D)) : Prop := PI X tg e (tI X W ms f)
section
variable {X : Cx} {W : WX} {ms : Ms} {rs : Shp} {σ σ1 : L2.St} {H H1 : Hp} {r r1 : Rho} {O O1 : Own} {G : Gh} {E : Ends} {tg e : Expr}
theorem _root_.L2.PI.weak {t t' : TI} (h : PI X tg e t) (w : ∀ σ H Q, t' σ H Q → t σ H Q) : PI X tg e t' := ⟨fun pins s σ H Q I q => h.run pins s σ H Q I (w σ H Q q)⟩
theorem tI_step {f : Rho → R (List D)} {A : List D → Rho → Prop} {Z : It → Hp → Prop} (h : Rel X.w X.K ms σ H r O G) (hh : (f r).on A (Bx X W ms σ H O G))
    (q : ∀ d r' J H' O', A d r' → Rel X.w X.K ms σ H' r' O' G → Ext H O G H' O' G → WalkD X.K J d (msk H' (Ow O' G)) → Z J H') : tI X W ms f σ H Z :=
  ⟨r, O, G, h, hh.mono (fun d r' a v H' O' h1 e1 p => q d r' v H' O' a h1 e1 p) fun _ _ _ b => b⟩
theorem walkD_list {K : PySem.W.Frag} {a : Addr} {xs : List V} {ds : List D} {M : Hp} (h : Rd M a (.lst xs)) (rp : RepAll K M xs ds) : WalkD K (Itl K a) ds M := fun H W sm tr => by
  have q : SqL K H a xs := .inl (DL.Same.rd (sm.trans msk_sub) h)
  refine ⟨fun i d e => ?_, xs, q, by rw [rp.len]; exact Nat.le_refl _⟩
  obtain ⟨v, ev, rv⟩ := rp.get e
  refine ⟨⟨xs, v, q, ev⟩, fun x H' y => ?_⟩
  obtain ⟨e1, y⟩ := y
  subst e1
  have e2 := y xs q
  rw [ev] at e2
  cases e2
  exact ⟨Same.refl _, rv.mono sm⟩
theorem walkD_tup {K : PySem.W.Frag} {a : Addr} {xs : List V} {ds : List D} {M : Hp} (h : SqT K M a xs) (rp : RepAll K M xs ds) : WalkD K (Itt K a) ds M := fun H W sm tr => by
  have q : SqT K H a xs := DL.Same.tup (sm.trans msk_sub) h
  refine ⟨fun i d e => ?_, xs, q, by rw [rp.len]; exact Nat.le_refl _⟩
  obtain ⟨v, ev, rv⟩ := rp.get e
  refine ⟨⟨xs, v, q, ev⟩, fun x H' y => ?_⟩
  obtain ⟨e1, y⟩ := y
  subst e1
  have e2 := y xs q
  rw [ev] at e2
  cases e2
  exact ⟨Same.refl _, rv.mono sm⟩
def sgn (c : Nat) : D := .str ⟨#[c]⟩
theorem walkD_str {K : PySem.W.Frag} {z : Str} {M : Hp} : WalkD K (Its z) (z.cps.toList.map sgn) M := fun H W sm tr => by
  refine ⟨fun i d e => ?_, by rw [List.length_map, Array.length_toList]; exact Nat.le_refl _⟩
  rw [List.getElem?_map, Array.getElem?_toList] at e
  cases q : z.cps[i]? with
  | none => rw [q] at e; cases e
  | some c =>
    rw [q] at e
    cases e
    refine ⟨(Array.getElem?_eq_some_iff.mp q).1, fun x H' y => ?_⟩
    obtain ⟨e1, c', e2, rfl⟩ := y
    subst e1
    rw [q] at e2
    cases e2
    exact ⟨Same.refl _, .str _⟩
def rngD (lo : Int) (n : Nat) : List D := (List.range n).map fun i => .int (lo + (i : Nat))
theorem walkD_rng {K : PySem.W.Frag} {lo : Int} {n : Nat} {M : Hp} : WalkD K (Itr lo n) (rngD lo n) M := fun H W sm tr => by
  unfold rngD
  refine ⟨fun i d e => ?_, by rw [List.length_map, List.length_range]; exact Nat.le_refl _⟩
  rw [List.getElem?_map] at e
  cases q : (List.range n)[i]? with
  | none => rw [q] at e; cases e
  | some j =>
    rw [q] at e
    cases e
    obtain ⟨hi, e2⟩ := List.getElem?_eq_some_iff.mp q
    rw [List.getElem_range] at e2
    subst e2
    rw [List.length_range] at hi
    refine ⟨hi, fun x H' y => ?_⟩
    obtain ⟨e1, rfl⟩ := y
    subst e1
    exact ⟨Same.refl _, .int _⟩
/-- over a pure list -/
def iLst (f : Rho → R D) : Rho → R (List D) := fun r => (f r).bind fun d r1 => match d with
  | .list ds => .ok ds r1
  | _ => .bad
theorem ci_list {f : Rho → R D} (h : CE X W ms e f) : CI X W ms tg e (iLst f) :=
  (pi_list h).weak fun σ H Z ⟨r, O, G, R, h⟩ => by
    unfold iLst at h
    rw [on_bind] at h
    refine tE_step R h fun d r1 v H1 O1 h1 R1 E1 p1 => ?_
    cases d with
    | list ds =>
      obtain ⟨a, xs, rfl, q, rp⟩ := p1.lstI
      exact ⟨a, rfl, ⟨xs, .inl (DL.Same.rd msk_sub q)⟩, h1 _ H1 O1 R1 E1 (walkD_list q rp)⟩
    | _ => exact False.elim h1
def iTup (f : Rho → R D) : Rho → R (List D) := fun r => (f r).bind fun d r1 => match d with
  | .tuple ds => .ok ds r1
  | _ => .bad
theorem ci_tup {f : Rho → R D} (h : CE X W ms e f) : CI X W ms tg e (iTup f) :=
  (pi_tup h).weak fun σ H Z ⟨r, O, G, R, h⟩ => by
    unfold iTup at h
    rw [on_bind] at h
    refine tE_step R h fun d r1 v H1 O1 h1 R1 E1 p1 => ?_
    cases d with
    | tuple ds =>
      obtain ⟨a, xs, rfl, q, rp⟩ := p1.tupI
      exact ⟨a, rfl, ⟨xs, DL.Same.tup msk_sub q⟩, h1 _ H1 O1 R1 E1 (walkD_tup q rp)⟩
    | _ => exact False.elim h1
def iStr (f : Rho → R D) : Rho → R (List D) := fun r => (f r).bind fun d r1 => match d with
  | .str z => .ok (z.cps.toList.map sgn) r1
  | _ => .bad
theorem ci_str {f : Rho → R D} (h : CE X W ms e f) : CI X W ms tg e (iStr f) :=
  (pi_str h).weak fun σ H Z ⟨r, O, G, R, h⟩ => by
    unfold iStr at h
    rw [on_bind] at h
    refine tE_step R h fun d r1 v H1 O1 h1 R1 E1 p1 => ?_
    cases d with
    | str z =>
      refine ⟨z, p1.strI, h1 _ H1 O1 R1 E1 walkD_str⟩
    | _ => exact False.elim h1
/-- range(n); range(a, b) -/
def inR (i : Int) : Bool := decide (-(2 ^ 62) ≤ i) && decide (i < 2 ^ 62)
def iRng1 (as : Rho → R (List Opd)) : Rho → R (List D) := fun r => (as r).bind fun os r1 => match gets r1 os with
  | some [.int j] => if inR j = true then .ok (rngD 0 j.toNat) r1 else .bad
  | _ => .bad
def iRng2 (as : Rho → R (List Opd)) : Rho → R (List D) := fun r => (as r).bind fun os r1 => match gets r1 os with
  | some [.int i, .int j] => if (inR i && inR j) = true then .ok (rngD i (j - i).toNat) r1 else .bad
  | _ => .bad
theorem inR_ok {i : Int} (h : inR i = true) : -(2 ^ 62) ≤ i ∧ i < 2 ^ 62 := by
  unfold inR at h
  obtain ⟨a, b⟩ := Bool.and_eq_true_iff.mp h
  exact ⟨of_decide_eq_true a, of_decide_eq_true b⟩
theorem RepBs.one {K : PySem.W.Frag} {M H : Hp} {vs : List V} {d : D} (h : RepBs K M H vs [d]) : ∃ v, vs = [v] ∧ RepB K M H v d := by
  cases h with
  | cons a b => cases b; exact ⟨_, rfl, a⟩
theorem RepBs.two {K : PySem.W.Frag} {M H : Hp} {vs : List V} {d d2 : D} (h : RepBs K M H vs [d, d2]) : ∃ v w, vs = [v, w] ∧ RepB K M H v d ∧ RepB K M H w d2 := by
  cases h with
  | cons a b => cases b with
    | cons b c => cases c; exact ⟨_, _, rfl, a, b⟩
theorem ci_rng1 {a : Expr} {as : Rho → R (List Opd)} {p pos : Pos} (hm : X.mg "range" = none) (ha : CA X W ms [a] as) (hg : Gl X "range" := by rfl) (hs : starEach [a] X.env = [(false, eval a X.env)] := by rfl) : CI X W ms tg (.Call (.Name "range" p) [a] [] pos) (iRng1 as) :=
  (pi_range1 hg hm ha hs).weak fun σ H Z ⟨r, O, G, R, h⟩ => by
    unfold iRng1 at h
    rw [on_bind] at h
    refine tA_step R h fun os r1 vs H1 O1 h1 R1 E1 p1 => ?_
    split at h1
    · rename_i j e
      split at h1
      · rename_i hz
        obtain ⟨v, rfl, rv⟩ := (p1.gets R1 e).one
        rw [rv.intI]
        exact ⟨j, rfl, (inR_ok hz).1, (inR_ok hz).2, h1 _ H1 O1 R1 E1 walkD_rng⟩
      · exact False.elim h1
    · exact False.elim h1
theorem ci_rng2 {a b : Expr} {as : Rho → R (List Opd)} {p pos : Pos} (hm : X.mg "range" = none) (ha : CA X W ms [a, b] as) (hg : Gl X "range" := by rfl) (hs : starEach [a, b] X.env = [(false, eval a X.env), (false, eval b X.env)] := by rfl)
    (hs2 : starEach [b] X.env = [(false, eval b X.env)] := by rfl) : CI X W ms tg (.Call (.Name "range" p) [a, b] [] pos) (iRng2 as) :=
  (pi_range2 hg hm ha hs hs2).weak fun σ H Z ⟨r, O, G, R, h⟩ => by
    unfold iRng2 at h
    rw [on_bind] at h
    refine tA_step R h fun os r1 vs H1 O1 h1 R1 E1 p1 => ?_
    split at h1
    · rename_i i j e
      split at h1
      · rename_i hz
        obtain ⟨hz1, hz2⟩ := Bool.and_eq_true_iff.mp hz
        obtain ⟨v, w, rfl, rv, rw'⟩ := (p1.gets R1 e).two
        rw [rv.intI, rw'.intI]
        exact ⟨i, j, rfl, ⟨(inR_ok hz1).1, (inR_ok hz1).2, (inR_ok hz2).1, (inR_ok hz2).2⟩, h1 _ H1 O1 R1 E1 walkD_rng⟩
      · exact False.elim h1
    · exact False.elim h1

/-! ## for -/
def forE (k : D → Rho → Option Rho) (g : Rho → SR) : List D → Rho → SR
  | [], r => .nx r
  | d :: ds, r => match k d r with
    | none => .bad
    | some r1 => match g r1 with
      | .nx r2 => forE k g ds r2
      | .ct r2 => forE k g ds r2
      | .bk r2 => .nx r2
      | .rt d r2 => .rt d r2
      | .exc c x r2 => .exc c x r2
      | .bad => .bad
def sFor (f : Rho → R (List D)) (k : D → Rho → Option Rho) (g : Rho → SR) : Rho → SR := fun r => (f r).toS fun ds r1 => forE k g ds r1
theorem drop_cons {α : Type} {l : List α} {i : Nat} (h : i < l.length) : ∃ x, l[i]? = some x ∧ l.drop i = x :: l.drop (i + 1) := ⟨l[i], List.getElem?_eq_getElem h, List.drop_eq_getElem_cons h⟩
theorem cs_for {iter : Expr} {body : List Stmt} {is : List Nat} {f : Rho → R (List D)} {k : D → Rho → Option Rho} {gt : TG} {g : Rho → SR} {pos : Pos} (hp : PassesOwn (model X.prog X.w) X.A X.env X.xe) (hc : X.calm = true) (hi : CI X W ms tg iter f) (hg : CG X ms tg is k gt) (hb : CSs X W ms rs body g)
    (hs : ∀ x, foldedSetIterable iter X.env x = pure x := by intro _; rfl) : CS X W ms rs (.For tg iter body [] pos) (sFor f k g) :=
  (ps_for hp hc hi hg.1 hb hs).lenW fun E σ H hl ⟨r, O, G, R, h⟩ => tI_step R (toS_on h) fun ds r0 J H0 O0 h0 R0 E0 wk => by
    refine ⟨fun i m σ2 H2 => ∃ r2 O2, m = ds.length - i ∧ i ≤ ds.length ∧ Rel X.w X.K ms σ2 H2 r2 O2 G ∧ σ2.length = X.N.length ∧ Ext H0 O0 G H2 O2 G ∧ Fx ms σ σ2 ∧ SOn X W ms rs E σ2 H2 O2 G (forE k g (ds.drop i) r2),
      ⟨ds.length, r0, O0, by simp, Nat.zero_le _, R0, hl, .refl, .refl, by rw [List.drop_zero]; exact h0.mono E0 .refl⟩, ?_⟩
    rintro i m σ2 H2 ⟨r2, O2, rfl, hi, R2, hl2, E2, F2, h2⟩
    obtain ⟨w1, w2⟩ := wk H2 (Ow O2 G) E2.sm R2.trO
    by_cases hlt : i < ds.length
    · obtain ⟨d, ed, edr⟩ := drop_cons hlt
      obtain ⟨go, yl⟩ := w1 i d ed
      refine .inr ⟨go, fun σ' H' => ∃ r' O', Rel X.w X.K ms σ' H' r' O' G ∧ σ'.length = X.N.length ∧ Ext H0 O0 G H' O' G ∧ Fx ms σ σ' ∧ SOn X W ms rs E σ' H' O' G (forE k g (ds.drop (i + 1)) r'), ?_, ?_⟩
      · rintro σ' H' ⟨r', O', a1, a2, a3, a4, a5⟩
        exact ⟨ds.length - (i + 1), by omega, r', O', rfl, by omega, a1, a2, a3, a4, a5⟩
      · intro x H3 y
        obtain ⟨sm3, rp⟩ := yl x H3 y
        have R3 := R2.same sm3
        have E3 : Ext H2 O2 G H3 O2 G := .same sm3 R2.tr
        rw [edr] at h2
        unfold forE at h2
        cases ek : k d r2 with
        | none => rw [ek] at h2; exact False.elim h2
        | some r4 =>
          rw [ek] at h2
          refine hg.2 R3 hl2 rp ek fun σ4 R4 F4 _ => ⟨r4, O2, G, R4, ?_⟩
          have h4 := h2.mono (σ1 := σ4) E3 F4
          simp only at h4
          cases eg : g r4 with
          | nx r5 =>
            rw [eg] at h4
            exact fun σ5 H5 O5 R5 E5 F5 => ⟨r5, O5, R5, F5.len.trans (F4.len.trans hl2), E2.trans (E3.trans E5), F2.trans (F4.trans F5), h4.mono E5 F5⟩
          | ct r5 =>
            rw [eg] at h4
            exact fun σ5 H5 O5 R5 E5 F5 => ⟨r5, O5, R5, F5.len.trans (F4.len.trans hl2), E2.trans (E3.trans E5), F2.trans (F4.trans F5), h4.mono E5 F5⟩
          | bk r5 => rw [eg] at h4; exact h4
          | rt d5 r5 => rw [eg] at h4; exact h4
          | exc c x5 r5 => rw [eg] at h4; exact h4
          | bad => rw [eg] at h4; exact h4
    · have e : i = ds.length := by omega
      subst e
      rw [List.drop_length] at h2
      exact .inl ⟨w2, h2 σ2 H2 O2 R2 .refl .refl⟩
end
end DL
end

section
set_option maxHeartbeats 1000000
namespace DL
open PySem PySem.Spec PyProof.Rows L2

/-! ## while -/
def whileN (t : Rho → R Bool) (g : Rho → SR) : Nat → Rho → SR
  | 0, _ => .bad
  | n + 1, r => (t r).toS fun c r1 => if c = true then (match g r1 with
      | .nx r2 => whileN t g n r2
      | .ct r2 => whileN t g n r2
      | .bk r2 => .nx r2
      | .rt d r2 => .rt d r2
      | .exc c x r2 => .exc c x r2
      | .bad => .bad) else .nx r1
theorem whileN_up {t : Rho → R Bool} {g : Rho → SR} : ∀ {n : Nat} {r : Rho}, whileN t g n r ≠ .bad → whileN t g (n + 1) r = whileN t g n r
  | 0, r, h => absurd rfl h
  | n + 1, r, h => by
    unfold whileN at h ⊢
    cases e : t r with
    | bad => rfl
    | exc c x r' => rfl
    | ok c r1 =>
      rw [e] at h
      simp only [R.toS] at h ⊢
      cases c with
      | false => rfl
      | true =>
        rw [if_pos rfl] at h
        rw [if_pos rfl, if_pos rfl]
        cases e2 : g r1 with
        | nx r2 => rw [e2] at h; exact whileN_up h
        | ct r2 => rw [e2] at h; exact whileN_up h
        | _ => rfl
theorem whileN_le {t : Rho → R Bool} {g : Rho → SR} {n : Nat} {r : Rho} (h : whileN t g n r ≠ .bad) : ∀ m, whileN t g (n + m) r = whileN t g n r
  | 0 => rfl
  | m + 1 => by
    have ih := whileN_le h m
    rw [← Nat.add_assoc, whileN_up (by rw [ih]; exact h), ih]
open Classical in
noncomputable def sWhile (t : Rho → R Bool) (g : Rho → SR) : Rho → SR := fun r => if h : ∃ n, whileN t g n r ≠ .bad then whileN t g (choose h) r else .bad
theorem sWhile_of {t : Rho → R Bool} {g : Rho → SR} {n : Nat} {r : Rho} (h : whileN t g n r ≠ .bad) : sWhile t g r = whileN t g n r := by
  have hh : ∃ n, whileN t g n r ≠ .bad := ⟨n, h⟩
  unfold sWhile
  rw [dif_pos hh]
  have hc := Classical.choose_spec hh
  rcases Nat.le_total n (Classical.choose hh) with q | q
  · obtain ⟨m, e⟩ := Nat.exists_eq_add_of_le q
    rw [e, whileN_le h m]
  · obtain ⟨m, e⟩ := Nat.exists_eq_add_of_le q
    have := whileN_le hc m
    rw [← e] at this
    exact this.symm
/-- one turn -/
theorem sWhile_eq (t : Rho → R Bool) (g : Rho → SR) (r : Rho) : sWhile t g r = (t r).toS fun c r1 => if c = true then (match g r1 with
      | .nx r2 => sWhile t g r2
      | .ct r2 => sWhile t g r2
      | .bk r2 => .nx r2
      | .rt d r2 => .rt d r2
      | .exc c x r2 => .exc c x r2
      | .bad => .bad) else .nx r1 := by
  by_cases hh : ∃ n, whileN t g n r ≠ .bad
  · obtain ⟨n, h⟩ := hh
    rw [sWhile_of h]
    cases n with
    | zero => exact absurd rfl h
    | succ n =>
      unfold whileN at h ⊢
      cases e : t r with
      | bad => rfl
      | exc c x r' => rfl
      | ok c r1 =>
        rw [e] at h
        simp only [R.toS] at h ⊢
        cases c with
        | false => rfl
        | true =>
          rw [if_pos rfl] at h
          rw [if_pos rfl, if_pos rfl]
          cases e2 : g r1 with
          | nx r2 => rw [e2] at h; exact (sWhile_of h).symm
          | ct r2 => rw [e2] at h; exact (sWhile_of h).symm
          | _ => rfl
  · have hb : ∀ n, whileN t g n r = .bad := fun n => Classical.byContradiction fun z => hh ⟨n, z⟩
    have e0 : sWhile t g r = .bad := by unfold sWhile; rw [dif_neg hh]
    rw [e0]
    have h1 := hb 1
    have go : ∀ r1, t r = .ok true r1 → (match g r1 with
      | .nx r2 => sWhile t g r2
      | .ct r2 => sWhile t g r2
      | .bk r2 => .nx r2
      | .rt d r2 => .rt d r2
      | .exc c x r2 => .exc c x r2
      | .bad => SR.bad) = .bad := fun r1 e => by
      have all : ∀ r2, (g r1 = .nx r2 ∨ g r1 = .ct r2) → sWhile t g r2 = .bad := fun r2 e2 => by
        have : ¬ ∃ n, whileN t g n r2 ≠ .bad := fun ⟨n, z⟩ => z (by
          have q := hb (n + 1)
          unfold whileN at q
          rw [e] at q
          simp only [R.toS] at q
          rcases e2 with e2 | e2 <;> (rw [e2] at q; exact q))
        unfold sWhile
        rw [dif_neg this]
      cases e2 : g r1 with
      | nx r2 => exact all r2 (.inl e2)
      | ct r2 => exact all r2 (.inr e2)
      | bad => rfl
      | bk r2 => unfold whileN at h1; rw [e] at h1; simp only [R.toS, if_true] at h1; rw [e2] at h1; cases h1
      | rt d r2 => unfold whileN at h1; rw [e] at h1; simp only [R.toS, if_true] at h1; rw [e2] at h1; cases h1
      | exc c x r2 => unfold whileN at h1; rw [e] at h1; simp only [R.toS, if_true] at h1; rw [e2] at h1; cases h1
    cases e : t r with
    | bad => rfl
    | exc c x r' => unfold whileN at h1; rw [e] at h1; cases h1
    | ok c r1 =>
      cases c with
      | false => unfold whileN at h1; rw [e] at h1; cases h1
      | true => exact (go r1 e).symm
section
variable {X : Cx} {W : WX} {ms : Ms} {rs : Shp} {σ σ1 : L2.St} {H H1 : Hp} {r r1 : Rho} {O O1 : Own} {G : Gh} {E : Ends} {tg e : Expr}
theorem SOn.nbad {s : SR} (h : SOn X W ms rs E σ H O G s) : s ≠ .bad := fun z => by rw [z] at h; exact h
theorem cs_while {c : Expr} {body : List Stmt} {t : Rho → R Bool} {g : Rho → SR} {pos : Pos} (hp : PassesOwn (model X.prog X.w) X.A X.env X.xe) (hc : CT X W ms c t) (hb : CSs X W ms rs body g) : CS X W ms rs (.While c body [] pos) (sWhile t g) :=
  (ps_while hp hc hb).weak fun E σ H ⟨r, O, G, R, h⟩ => by
    have hn := h.nbad
    have ⟨n, hN⟩ : ∃ n, whileN t g n r ≠ .bad := Classical.byContradiction fun z => hn (by unfold sWhile; rw [dif_neg z])
    rw [sWhile_of hN] at h
    refine ⟨fun m σ2 H2 => ∃ r2 O2, Rel X.w X.K ms σ2 H2 r2 O2 G ∧ SOn X W ms rs E σ2 H2 O2 G (whileN t g m r2), ⟨n, r, O, R, h⟩, ?_⟩
    rintro m σ2 H2 ⟨r2, O2, R2, h2⟩
    cases m with
    | zero => exact False.elim h2
    | succ m =>
      unfold whileN at h2
      refine tT_step R2 (toS_on h2) fun b r3 H3 O3 h3 R3 E3 => ?_
      cases b with
      | false => exact h3 σ2 H3 O3 R3 E3 .refl
      | true =>
        rw [if_pos rfl] at h3 ⊢
        refine ⟨fun σ' H' => ∃ r' O', Rel X.w X.K ms σ' H' r' O' G ∧ SOn X W ms rs E σ' H' O' G (whileN t g m r'), fun σ' H' ⟨r', O', a1, a2⟩ => ⟨m, by omega, r', O', a1, a2⟩, r3, O3, G, R3, ?_⟩
        have h4 := h3.mono E3 (.refl (σ := σ2))
        cases eg : g r3 with
        | nx r5 => rw [eg] at h4; exact fun σ5 H5 O5 R5 E5 F5 => ⟨r5, O5, R5, h4.mono E5 F5⟩
        | ct r5 => rw [eg] at h4; exact fun σ5 H5 O5 R5 E5 F5 => ⟨r5, O5, R5, h4.mono E5 F5⟩
        | bk r5 => rw [eg] at h4; exact h4
        | rt d5 r5 => rw [eg] at h4; exact h4
        | exc c x5 r5 => rw [eg] at h4; exact h4
        | bad => rw [eg] at h4; exact h4

/-! ## list comprehensions -/
def wipeR (r : Rho) : List Nat → Rho
  | [] => r
  | v :: vs => (wipeR r vs).set v none
def restR (r0 r : Rho) : List Nat → Rho
  | [] => r
  | v :: vs => (restR r0 r vs).set v ((r0[v]?).join)
def R.noX {α : Type} (r : R α) : R α := match r with
  | .ok a r => .ok a r
  | _ => .bad
theorem noX_on {α : Type} {x : R α} {A : α → Rho → Prop} {B B' : Str → D → Rho → Prop} (h : x.noX.on A B) : x.on A B' := by
  cases x with
  | ok a r => exact h
  | exc c y r => exact False.elim h
  | bad => exact h
def compL (vs : List Nat) (k : D → Rho → Option Rho) (t : Rho → R Bool) (f : Rho → R D) : List D → Rho → List D → R (List D)
  | [], r, acc => .ok acc r
  | d :: ds, r, acc => match k d r with
    | none => .bad
    | some r1 => (t r1).noX.bind fun c r2 => if c = true then (f r2).noX.bind fun y r3 => if acc.length < sizeLine then compL vs k t f ds (wipeR r3 vs) (acc ++ [y]) else .bad else compL vs k t f ds (wipeR r2 vs) acc
def eComp (vs : List Nat) (i : Rho → R (List D)) (k : D → Rho → Option Rho) (t : Rho → R Bool) (f : Rho → R D) : Rho → R D := fun r => (i r).bind fun ds r1 => (compL vs k t f ds (wipeR r1 vs) []).bind fun ys r2 => .ok (.list ys) (restR r1 r2 vs)
def tYesR : Rho → R Bool := fun r => .ok true r
theorem wipeR_len (r : Rho) : ∀ vs, (wipeR r vs).length = r.length
  | [] => rfl
  | v :: vs => by unfold wipeR; rw [List.length_set, wipeR_len r vs]
theorem restR_len (r0 r : Rho) : ∀ vs, (restR r0 r vs).length = r.length
  | [] => rfl
  | v :: vs => by unfold restR; rw [List.length_set, restR_len r0 r vs]
theorem wipeR_out (r : Rho) {i : Nat} : ∀ {vs : List Nat}, i ∉ vs → (wipeR r vs)[i]? = r[i]?
  | [], _ => rfl
  | v :: vs, h => by
    unfold wipeR
    rw [List.getElem?_set_ne (fun z => h (by rw [z]; exact List.mem_cons_self)), wipeR_out r fun z => h (List.mem_cons_of_mem _ z)]
theorem wipeR_in (r : Rho) {i : Nat} {d : D} : ∀ {vs : List Nat}, i ∈ vs → (wipeR r vs)[i]? ≠ some (some d)
  | v :: vs, h => by
    unfold wipeR
    by_cases q : v = i
    · subst q
      rw [List.getElem?_set]
      split
      · split <;> exact fun z => nomatch z
      · rename_i z; exact absurd rfl z
    · rw [List.getElem?_set_ne q]
      exact wipeR_in r ((List.mem_cons.mp h).elim (fun z => absurd z.symm q) id)
theorem restR_out (r0 r : Rho) {i : Nat} : ∀ {vs : List Nat}, i ∉ vs → (restR r0 r vs)[i]? = r[i]?
  | [], _ => rfl
  | v :: vs, h => by
    unfold restR
    rw [List.getElem?_set_ne (fun z => h (by rw [z]; exact List.mem_cons_self)), restR_out r0 r fun z => h (List.mem_cons_of_mem _ z)]
theorem restR_in (r0 r : Rho) (hl : r.length = r0.length) {i : Nat} {d : D} : ∀ {vs : List Nat}, i ∈ vs → (restR r0 r vs)[i]? = some (some d) → r0[i]? = some (some d)
  | v :: vs, h, e => by
    unfold restR at e
    by_cases q : v = i
    · subst q
      rw [List.getElem?_set] at e
      rw [if_pos rfl] at e
      split at e
      · exact join_some (Option.some.inj e)
      · cases e
    · rw [List.getElem?_set_ne q] at e
      exact restR_in r0 r hl ((List.mem_cons.mp h).elim (fun z => absurd z.symm q) id) e
theorem wipe_out2 {σ : L2.St} {i : Nat} : ∀ {vs : List Nat}, i ∉ vs → (wipe σ vs)[i]? = σ[i]?
  | [], _ => rfl
  | v :: vs, h => by
    unfold wipe
    rw [List.getElem?_set_ne (fun z => h (by rw [z]; exact List.mem_cons_self)), wipe_out2 fun z => h (List.mem_cons_of_mem _ z)]
theorem wipe_in2 {σ : L2.St} {i : Nat} : ∀ {vs : List Nat}, i ∈ vs → (wipe σ vs)[i]? = if i < σ.length then some none else none
  | v :: vs, h => by
    unfold wipe
    by_cases q : v = i
    · subst q
      by_cases hv : v < (wipe σ vs).length
      · rw [List.getElem?_set_self hv, if_pos (by rw [← wipe_length σ vs]; exact hv)]
      · rw [List.getElem?_eq_none (by rw [List.length_set]; exact Nat.le_of_not_lt hv), if_neg (by rw [← wipe_length σ vs]; exact hv)]
    · rw [List.getElem?_set_ne q]
      exact wipe_in2 ((List.mem_cons.mp h).elim (fun z => absurd z.symm q) id)
theorem wipe_eq {σ σ' : L2.St} {vs : List Nat} (hl : σ'.length = σ.length) (h : Only1 vs σ σ') : wipe σ' vs = wipe σ vs := by
  apply List.ext_getElem?
  intro i
  by_cases q : i ∈ vs
  · rw [wipe_in2 q, wipe_in2 q, hl]
  · rw [wipe_out2 q, wipe_out2 q]; exact h i q
theorem wipe_wipe {σ : L2.St} {vs : List Nat} : wipe (wipe σ vs) vs = wipe σ vs := wipe_eq (wipe_length σ vs) fun j hj => wipe_out2 hj
theorem Rel.wipe (h : Rel X.w X.K ms σ H r O G) {vs : List Nat} (hv : ∀ i ∈ vs, (ms i).sh = .pur) : Rel X.w X.K ms (L2.wipe σ vs) H (wipeR r vs) O G where
  len := by rw [wipeR_len, wipe_length]; exact h.len
  slot := fun i d e => by
    by_cases q : i ∈ vs
    · exact absurd e (wipeR_in r q)
    · rw [wipeR_out r q] at e
      obtain ⟨v, e1, rs⟩ := h.slot i d e
      exact ⟨v, by rw [wipe_out2 q]; exact e1, rs⟩
  emp := fun i hi => by
    by_cases q : i ∈ vs
    · by_cases z : ∃ d, r[i]? = some (some d)
      · obtain ⟨d, e⟩ := z
        obtain ⟨v, _, rs⟩ := h.slot i d e
        rw [hv i q] at rs
        exact rs.purI.1
      · exact h.emp i fun d e => z ⟨d, e⟩
    · exact h.emp i fun d e => hi d (by rw [wipeR_out r q]; exact e)
  tr := h.tr
  dj := h.dj
  dG := h.dG
/-- back from a block -/
theorem Rel.rest {G' : Gh} {r2 : Rho} (h : Rel X.w X.K ms (L2.wipe σ vs) H1 r2 O1 G') {vs0 : List Nat} (e0 : vs0 = vs) (h0 : Rel X.w X.K ms σ H r O G) (hv : ∀ i ∈ vs, (ms i).sh = .pur) (E1 : Ext H O G H1 O1 G') : Rel X.w X.K ms σ H1 (restR r r2 vs) O1 G' := by
  have hl : r2.length = r.length := by rw [h.len, wipe_length, h0.len]
  refine ⟨by rw [restR_len, hl]; exact h0.len, fun i d e => ?_, fun i hi => ?_, h.tr, h.dj, h.dG⟩
  · by_cases q : i ∈ vs
    · have e2 := restR_in r r2 hl q e
      obtain ⟨v, e1, rs⟩ := h0.slot i d e2
      rw [hv i q] at rs ⊢
      have hO : O1 i = [] := by
        by_cases z : ∃ d, r2[i]? = some (some d)
        · obtain ⟨d, e⟩ := z
          obtain ⟨v, _, rs⟩ := h.slot i d e
          rw [hv i q] at rs
          exact rs.purI.1
        · exact h.emp i fun d e => z ⟨d, e⟩
      rw [hO]
      exact ⟨v, e1, .pur (rs.purI.2.mono E1.sm)⟩
    · rw [restR_out r r2 q] at e
      obtain ⟨v, e1, rs⟩ := h.slot i d e
      rw [wipe_out2 q] at e1
      exact ⟨v, e1, rs⟩
  · by_cases q : i ∈ vs
    · by_cases z : ∃ d, r2[i]? = some (some d)
      · obtain ⟨d, e⟩ := z
        obtain ⟨v, _, rs⟩ := h.slot i d e
        rw [hv i q] at rs
        exact rs.purI.1
      · exact h.emp i fun d e => z ⟨d, e⟩
    · exact h.emp i fun d e => hi d (by rw [restR_out r r2 q]; exact e)
abbrev W0 : WX := fun _ _ _ _ => False
theorem lc_read {X2 : Cx} (eW : X2.w = X.w) (eK : X2.K = X.K) (eN : X2.N = X.N) {i : Rho → R (List D)} {is vs : List Nat} {k : D → Rho → Option Rho} {gt : TG} {t : Rho → R Bool} {f : Rho → R D} (hvs : ∀ i ∈ vs, (ms i).sh = .pur) (his : ∀ i ∈ is, i ∈ vs) (hg : CG X2 ms tg is k gt)
    {Q : VK} (hl : σ.length = X.N.length) (h : tEo X W ms .lst (eComp vs i k t f) σ H Q) : tLc (tI X W ms i) gt (tT X2 W0 ms t) (tE X2 W0 ms f) vs σ H Q := by
  obtain ⟨r, O, G, R, h⟩ := h
  unfold eComp at h
  rw [on_bind] at h
  refine tI_step R h fun ds r1 J H1 O1 h1 R1 E1 wk D hD => ?_
  obtain ⟨Rg, Eg⟩ := R1.guard (o := .lst []) hD
  have Rw : Rel X.w X.K ms (wipe σ vs) (upd H1 D (.lst [])) (wipeR r1 vs) O1 (GA [D] G) := Rg.wipe hvs
  rw [on_bind] at h1
  refine ⟨fun n m H2 => ∃ r2 O2 acc ys, m = ds.length - n ∧ n ≤ ds.length ∧ Rel X.w X.K ms (wipe σ vs) H2 r2 O2 (GA [D] G) ∧ Ext H1 O1 G H2 O2 (GA [D] G) ∧ H2 D = some (.lst acc) ∧ RepAll X.K (msk H2 (Ow O2 (GA [D] G))) acc ys ∧
      (compL vs k t f (ds.drop n) r2 ys).on (fun a r' => ∀ v H' O' A, Rel X.w X.K ms σ H' (restR r1 r' vs) O' (GA A G) → Ext H O G H' O' (GA A G) → (∀ a_2 ∈ A, ¬G a_2) → RepS X.w X.K (msk H' (Ow O' (GA A G))) H' Shp.lst v (PyData.list a) A → Q v H') (fun _ _ _ => True),
    ⟨ds.length, wipeR r1 vs, O1, [], [], by simp, Nat.zero_le _, Rw, Eg, upd_same, .nil, by rw [List.drop_zero]; exact h1.mono (fun _ _ z => z) fun _ _ _ _ => trivial⟩, ?_⟩
  rintro n m H2 ⟨r2, O2, acc, ys, rfl, hn, R2, E2, hacc, racc, h2⟩
  have sm2 : Same (msk H1 (Ow O1 G)) (msk H2 (Ow O2 (GA [D] G))) := E2.sm
  obtain ⟨w1, w2⟩ := wk H2 (Ow O2 (GA [D] G)) sm2 R2.trO
  by_cases hlt : n < ds.length
  · obtain ⟨d, ed, edr⟩ := drop_cons hlt
    obtain ⟨go, yl⟩ := w1 n d ed
    refine .inr ⟨go, fun H' => ∃ r' O' acc' ys', Rel X.w X.K ms (wipe σ vs) H' r' O' (GA [D] G) ∧ Ext H1 O1 G H' O' (GA [D] G) ∧ H' D = some (.lst acc') ∧ RepAll X.K (msk H' (Ow O' (GA [D] G))) acc' ys' ∧
      (compL vs k t f (ds.drop (n + 1)) r' ys').on (fun a r' => ∀ v H' O' A, Rel X.w X.K ms σ H' (restR r1 r' vs) O' (GA A G) → Ext H O G H' O' (GA A G) → (∀ a_2 ∈ A, ¬G a_2) → RepS X.w X.K (msk H' (Ow O' (GA A G))) H' Shp.lst v (PyData.list a) A → Q v H') (fun _ _ _ => True),
      fun H' ⟨r', O', acc', ys', a1, a2, a3, a4, a5⟩ => ⟨ds.length - (n + 1), by omega, r', O', acc', ys', rfl, by omega, a1, a2, a3, a4, a5⟩, fun x H3 y => ?_⟩
    obtain ⟨sm3, rp⟩ := yl x H3 y
    have R3 := R2.same sm3
    have E3 : Ext H2 O2 (GA [D] G) H3 O2 (GA [D] G) := .same sm3 R2.tr
    rw [edr] at h2
    unfold compL at h2
    cases ek : k d r2 with
    | none => rw [ek] at h2; exact False.elim h2
    | some r4 =>
      rw [ek] at h2
      have hlw : (wipe σ vs).length = X2.N.length := by rw [wipe_length, eN]; exact hl
      refine hg.2 (σ := wipe σ vs) (H := H3) (r := r2) (O := O2) (G := GA [D] G) (by rw [eW, eK]; exact R3) hlw (by rw [eK]; exact rp) ek fun σ4 R4 F4 o4 => ?_
      have hw4 : wipe σ4 vs = wipe σ vs := (wipe_eq F4.len fun j hj => o4 j fun z => hj (his j z)).trans wipe_wipe
      refine ⟨hw4, ?_⟩
      simp only at h2
      rw [on_bind] at h2
      refine tT_step R4 (noX_on h2) fun b r5 H5 O5 h5 R5 E5 => ?_
      have hD5 : H5 D = some (.lst acc) := by
        rw [(E5.gh D (.inl List.mem_cons_self)).2]
        exact sm3 D _ hacc
      cases b with
      | false =>
        rw [if_neg (by decide)] at h5 ⊢
        have Rz := R5.wipe hvs
        rw [hw4, eW, eK] at Rz
        exact ⟨_, O5, acc, ys, Rz, E2.trans (E3.trans E5), hD5, racc.mono (E3.sm.trans E5.sm), h5⟩
      | true =>
        rw [if_pos rfl] at h5 ⊢
        rw [on_bind] at h5
        refine tE_step R5 (noX_on h5) fun yd r6 yv H6 O6 h6 R6 E6 p6 => ?_
        have hD6 : H6 D = some (.lst acc) := by
          rw [(E6.gh D (.inl List.mem_cons_self)).2]
          exact hD5
        have racc6 := racc.mono (E3.sm.trans (E5.sm.trans E6.sm))
        split at h6
        · rename_i hz
          rw [← racc.len] at hz
          refine ⟨acc, hD6, hz, ?_⟩
          have hWD : Ow O6 (GA [D] G) D := .inl (.inl List.mem_cons_self)
          have me : msk (upd H6 D (.lst (acc ++ [yv]))) (Ow O6 (GA [D] G)) = msk H6 (Ow O6 (GA [D] G)) := by
            funext b
            by_cases q : Ow O6 (GA [D] G) b
            · rw [msk_in q, msk_in q]
            · rw [msk_out q, msk_out q, upd_ne (fun z => q (by rw [z]; exact hWD))]
          have Rz := R6.wipe hvs
          rw [hw4, eW, eK] at Rz
          have nD : ∀ i, D ∉ O6 i := fun i z => R6.dG i D z (.inl List.mem_cons_self)
          have Ru : Rel X.w X.K ms (wipe σ vs) (upd H6 D (.lst (acc ++ [yv]))) (wipeR r6 vs) O6 (GA [D] G) := by
            refine ⟨Rz.len, fun i d e => ?_, Rz.emp, fun b g => ?_, Rz.dj, Rz.dG⟩
            · obtain ⟨v, e1, rs⟩ := Rz.slot i d e
              rw [me]
              refine ⟨v, e1, rs.mono (Same.refl _) fun b hb o z => ?_⟩
              rw [upd_ne (fun z2 => nD i (by rw [← z2]; exact hb))]
              exact z
            · by_cases q : b = D
              · rw [q, upd_same]; exact fun z => nomatch z
              · rw [upd_ne q]; exact Rz.tr b g
          refine ⟨_, O6, acc ++ [yv], ys ++ [yd], Ru, ?_, upd_same, ?_, h6⟩
          · have E26 := E2.trans (E3.trans (E5.trans E6))
            refine ⟨by rw [me]; exact E26.sm, fun b g => ⟨.inr g, ?_⟩⟩
            rw [upd_ne (fun z => R1.tr b g (by rw [z]; exact hD))]
            exact (E26.gh b g).2
          · rw [me]
            rw [eK] at p6
            exact racc6.append (.cons p6 .nil)
        · exact False.elim h6
  · have e : n = ds.length := by omega
    subst e
    rw [List.drop_length] at h2
    refine .inl ⟨w2, ?_⟩
    have E12 : Ext H O G H2 O2 (GA [D] G) := E1.trans E2
    exact h2 (.ref D) H2 O2 [D] (Rel.rest R2 rfl R1 hvs E2) E12 (fun a ha g => R1.tr a g (by rw [List.mem_singleton.mp ha]; exact hD)) (.lst hacc racc)
theorem _root_.L2.PTs.weak {es : List Expr} {t t' : TT} (h : PTs X es t) (w : ∀ σ H Q, t' σ H Q → t σ H Q) : PTs X es t' := ⟨fun pins s σ H Q I q => h.run pins s σ H Q I (w σ H Q q)⟩
theorem cts_nil : PTs X [] (tT X W ms tYesR) := pts_nil.weak fun σ H Q ⟨r, O, G, R, h⟩ => h H O R .refl
theorem cts_one {c : Expr} {t : Rho → R Bool} (h : CT X W ms c t) : PTs X [c] (tT X W ms t) := pts_one h
theorem ceo_lc {elt iter : Expr} {ifs : List Expr} {scope : Scope} {own : List (Str × Nat)} {pos : Pos} {i : Rho → R (List D)} {is vs : List Nat} {k : D → Rho → Option Rho} {gt : TG} {t : Rho → R Bool} {f : Rho → R D} (hc : X.calm = true) (hN : X.N.Nodup) (hi : CI X W ms tg iter i) (ok : BlkOk X.N X.env.scope scope own)
    (hg : ∀ (s : Shared) (H : Hp) (C : Addr) (cl : List (Str × Addr)) (fp : List Addr), CG (X.blk s H scope (compEnvC scope cl C X.env) fp) ms tg is k gt)
    (ht : ∀ (s : Shared) (H : Hp) (C : Addr) (cl : List (Str × Addr)) (fp : List Addr), PTs (X.blk s H scope (compEnvC scope cl C X.env) fp) ifs (tT (X.blk s H scope (compEnvC scope cl C X.env) fp) W0 ms t))
    (he : ∀ (s : Shared) (H : Hp) (C : Addr) (cl : List (Str × Addr)) (fp : List Addr), CE (X.blk s H scope (compEnvC scope cl C X.env) fp) W0 ms elt f)
    (hv : own.map (·.2) = vs := by rfl) (hvs : ∀ i ∈ vs, (ms i).sh = .pur := by decide) (his : ∀ i ∈ is, i ∈ vs := by decide) (hs : ∀ x, foldedSetIterable iter X.env x = pure x := by intro _; rfl) :
    CEo X W ms .lst (.ListComp elt [⟨tg, iter, ifs, 0⟩] scope pos) (eComp vs i k t f) := by
  subst hv
  refine ⟨fun pins s σ H Q I h => ?_⟩
  exact (pe_lc (wi := tI X W ms i) (g := gt) (tt := tT X W0 ms t) (te := tE X W0 ms f) hc hN hi ok (fun s H C cl fp => (hg s H C cl fp).1) ht he hs).run pins s σ H Q I
    (lc_read (X := X) (X2 := X.blk s H scope (compEnvC scope [] 0 X.env) []) rfl rfl rfl hvs his (hg s H 0 [] []) I.len h)
/-- name = [..] on one line, the name a local one -/
theorem cs_setLc (j : Nat) {y : Str} {py : Pos} {elt iter : Expr} {ifs : List Expr} {scope : Scope} {own : List (Str × Nat)} {pos spos : Pos} {i : Rho → R (List D)} {is vs : List Nat} {k : D → Rho → Option Rho} {gt : TG} {t : Rho → R Bool} {f : Rho → R D} (hc : X.calm = true) (hN : X.N.Nodup) (hi : CI X W ms tg iter i) (ok : BlkOk X.N X.env.scope scope own)
    (hg : ∀ (s : Shared) (H : Hp) (C : Addr) (cl : List (Str × Addr)) (fp : List Addr), CG (X.blk s H scope (compEnvC scope cl C X.env) fp) ms tg is k gt)
    (ht : ∀ (s : Shared) (H : Hp) (C : Addr) (cl : List (Str × Addr)) (fp : List Addr), PTs (X.blk s H scope (compEnvC scope cl C X.env) fp) ifs (tT (X.blk s H scope (compEnvC scope cl C X.env) fp) W0 ms t))
    (he : ∀ (s : Shared) (H : Hp) (C : Addr) (cl : List (Str × Addr)) (fp : List Addr), CE (X.blk s H scope (compEnvC scope cl C X.env) fp) W0 ms elt f)
    (hy : X.N[j]? = some y := by rfl) (hyl : X.env.scope.names.lookup y = some .local := by rfl) (hf : (ms j).fx = false := by rfl)
    (hsw : swapsWith (.ListComp elt [⟨tg, iter, ifs, 0⟩] scope pos) (some (.Name y py)) spos.line X.env = pure true := by exact sw_true rfl rfl rfl (by decide +kernel))
    (hv : own.map (·.2) = vs := by rfl) (hvs : ∀ i ∈ vs, (ms i).sh = .pur := by decide) (his : ∀ i ∈ is, i ∈ vs := by decide) (hs : ∀ x, foldedSetIterable iter X.env x = pure x := by intro _; rfl)
    (hsh : (ms j).sh = .lst := by rfl) : CS X W ms rs (.Assign [.Name y py] (.ListComp elt [⟨tg, iter, ifs, 0⟩] scope pos) spos) (sSet j (eComp vs i k t f)) := by
  subst hv
  refine ⟨fun pins s σ H E I h => ?_⟩
  refine (ps_setLc (i := j) (wi := tI X W ms i) (g := gt) (tt := tT X W0 ms t) (te := tE X W0 ms f) hc hN hy hyl hsw hi ok (fun s H C cl fp => (hg s H C cl fp).1) ht he hs).run pins s σ H E I
    (lc_read (X := X) (W := W) (X2 := X.blk s H scope (compEnvC scope [] 0 X.env) []) rfl rfl rfl hvs his (hg s H 0 [] []) I.len ?_)
  obtain ⟨r, O, G, R, h⟩ := h
  refine tEo_step R (toS_on h) fun d r' v H' O' A q R' e' n rp => ?_
  exact q (σ.set j (some v)) H' (updO O' j A) (R'.setOwn n (loc_lt R' I.len hy) (by rw [hsh]; exact rp)) ⟨e'.sm.trans (msk_less fun a z => ow_ga z), fun a g => ⟨g, (e'.gh a g).2⟩⟩ (fx_set hf)
/-- .. into a pure slot -/
theorem cs_setLcP (j : Nat) {y : Str} {py : Pos} {elt iter : Expr} {ifs : List Expr} {scope : Scope} {own : List (Str × Nat)} {pos spos : Pos} {i : Rho → R (List D)} {is vs : List Nat} {k : D → Rho → Option Rho} {gt : TG} {t : Rho → R Bool} {f : Rho → R D} (hc : X.calm = true) (hN : X.N.Nodup) (hi : CI X W ms tg iter i) (ok : BlkOk X.N X.env.scope scope own)
    (hg : ∀ (s : Shared) (H : Hp) (C : Addr) (cl : List (Str × Addr)) (fp : List Addr), CG (X.blk s H scope (compEnvC scope cl C X.env) fp) ms tg is k gt)
    (ht : ∀ (s : Shared) (H : Hp) (C : Addr) (cl : List (Str × Addr)) (fp : List Addr), PTs (X.blk s H scope (compEnvC scope cl C X.env) fp) ifs (tT (X.blk s H scope (compEnvC scope cl C X.env) fp) W0 ms t))
    (he : ∀ (s : Shared) (H : Hp) (C : Addr) (cl : List (Str × Addr)) (fp : List Addr), CE (X.blk s H scope (compEnvC scope cl C X.env) fp) W0 ms elt f)
    (hy : X.N[j]? = some y := by rfl) (hyl : X.env.scope.names.lookup y = some .local := by rfl) (hf : (ms j).fx = false := by rfl)
    (hsw : swapsWith (.ListComp elt [⟨tg, iter, ifs, 0⟩] scope pos) (some (.Name y py)) spos.line X.env = pure true := by exact sw_true rfl rfl rfl (by decide +kernel))
    (hv : own.map (·.2) = vs := by rfl) (hvs : ∀ i ∈ vs, (ms i).sh = .pur := by decide) (his : ∀ i ∈ is, i ∈ vs := by decide) (hs : ∀ x, foldedSetIterable iter X.env x = pure x := by intro _; rfl)
    (hsh : (ms j).sh = .pur := by rfl) : CS X W ms rs (.Assign [.Name y py] (.ListComp elt [⟨tg, iter, ifs, 0⟩] scope pos) spos) (sSet j (eComp vs i k t f)) := by
  subst hv
  refine ⟨fun pins s σ H E I h => ?_⟩
  refine (ps_setLc (i := j) (wi := tI X W ms i) (g := gt) (tt := tT X W0 ms t) (te := tE X W0 ms f) hc hN hy hyl hsw hi ok (fun s H C cl fp => (hg s H C cl fp).1) ht he hs).run pins s σ H E I
    (lc_read (X := X) (W := W) (X2 := X.blk s H scope (compEnvC scope [] 0 X.env) []) rfl rfl rfl hvs his (hg s H 0 [] []) I.len ?_)
  obtain ⟨r, O, G, R, h⟩ := h
  refine tEo_step R (toS_on h) fun d r' v H' O' A q R' e' n rp => ?_
  have R2 := R'.free
  exact q (σ.set j (some v)) H' O' (R2.set hsh (loc_lt R2 I.len hy) (rep_free R' n rfl rp)) (ext_free e') (fx_set hf)
end
end DL
end

section
set_option maxHeartbeats 1000000
namespace DL
open PySem PySem.Spec PyProof.Rows L2

/-! ## defs -/
/-- what a def computes: the arguments in; the answer, and what the changed arguments are then -/
abbrev FS := List D → R D
def ExcM (mg : Str → Option Value) (H : Hp) (c : Str) (x : D) (cv : Value) (dx : Option Addr) : Prop :=
  mg c = some cv ∧ ((x = .none ∧ dx = none) ∨ ∃ (d : Addr) (f : Str) (i : Int), x = .tuple [.str f, .int i] ∧ dx = some d ∧ H d = some (.xd [(f, .int i)]))
def spF (w : World) (K : PySem.W.Frag) (mg : Str → Option Value) (pm : Ms) (rs : Shp) (n : Nat) (F : FS) : Sp := fun vs H Q E => ∃ (ds : List D) (O : Own) (G : Gh), vs.length = n ∧ ds.length = n ∧ Rel w K pm (vs.map some) H (ds.map some) O G ∧
  (F ds).on (fun d ro => ∀ v H' O' A, Rel w K pm (vs.map some) H' ro O' (GA A G) → Ext H O G H' O' (GA A G) → (∀ a ∈ A, ¬ G a) → RepS w K (msk H' (Ow O' (GA A G))) H' rs v d A → Q v H')
    (fun c x ro => ∀ cv dx H' O', Rel w K pm (vs.map some) H' ro O' G → Ext H O G H' O' G → ExcM mg H' c x cv dx → E cv dx H')
structure FnG (P : Program) (w : World) (K : PySem.W.Frag) (mg : Str → Option Value) (base : Heap) (k : Nat) (f : Addr) (fd : FuncData) (ps : List Str) (sp : Sp) : Prop where
  len : ∀ vs H Q E, sp vs H Q E → vs.length = ps.length
  run : ∀ (A : Around) (outer : List Env) (s : Shared) (H : Hp) (args : Args) (us : List Value) (vs : List V) (Q : VK) (E : XK), Room k A → A.guards = some [] → Env0 P w K mg base A outer s H → BindsTo s fd args (ps.zip us) → Vals vs us → sp vs H Q E →
    codeAny (model P w) A (.call (.ref f) args) (CR (L2.CX P w) outer P w H s Q E) s
theorem FnG.mono {P : Program} {w : World} {K : PySem.W.Frag} {mg : Str → Option Value} {base : Heap} {j k : Nat} {f : Addr} {fd : FuncData} {ps : List Str} {sp : Sp} (F : FnG P w K mg base j f fd ps sp) (h : j ≤ k) : FnG P w K mg base k f fd ps sp :=
  ⟨F.len, fun A outer s H args us vs Q E hr => F.run A outer s H args us vs Q E (hr.mono h)⟩
theorem fnG_of {P : Program} {w : World} {K : PySem.W.Frag} {mg : Str → Option Value} {base : Heap} {k : Nat} {f : Addr} {name qual : Str} {params : Arguments} {body : List Stmt} {scope : Scope} {dV kV doc pm cdv ct oc : Value} {an od : Option Addr}
    {osl : Array (Option Value)} {N ps : List Str} {sp : Sp} (lk : K.lookup f = some ⟨oc, od, .func (PySem.W.fnOf name qual params body scope dV kV doc pm an cdv ct), osl⟩) (hcd : PySem.W.codeIn K cdv qual = true) (S : FnScope N ps scope)
    (len : ∀ vs H Q E, sp vs H Q E → vs.length = ps.length)
    (hbody : ∀ (A : Around) (outer : List Env) (s : Shared) (H : Hp) (vs : List V) (Q : VK) (E : XK), Room k (A.deeper (envOfC qual scope s.heap.objs.size f cdv)) → (A.deeper (envOfC qual scope s.heap.objs.size f cdv)).guards = some [] → sp vs H Q E →
      ∃ t, PSs (cxOf (L2.CX P w) P w K mg base N qual scope f cdv A outer s H E) body t ∧ t { nx := fun _ H' => Q .non H', rt := Q } (start N vs) H) :
    FnG P w K mg base (k + 1) f (PySem.W.fnOf name qual params body scope dV kV doc pm an cdv ct) ps sp := by
  refine ⟨len, fun A outer s H args us vs Q E hr hgd e0 hb r hsp => ?_⟩
  have hl := len _ _ _ _ hsp
  have KX : K.In s.heap := e0.mod.kin.keeps fun b o e => (e0.bs b o e).1
  have lim : s.heap.NoLimit := e0.mod.nolimit.keeps fun b o e => (e0.bs b o e).1
  have hkind : ∀ y ∈ ps.zip us, scope.names.lookup y.1 = some .local ∨ (scope.names.lookup y.1 = some .cell ∧ ((cellsFrom (s.heap.objs.size + 1) scope.names []).lookup y.1).isSome = true) := fun ⟨n, v⟩ hy => by
    rcases S.par n (List.of_mem_zip hy).1 with q | q
    · exact .inl q
    · exact .inr ⟨q, PySem.W.cellsFrom_some _ _ _ (.inl q)⟩
  refine codeAny_call_function hr.depth (KX _ _ lk) rfl S.co S.gen rfl (PySem.W.codeRec_of KX hcd) (hb _ _ _ _ ?_)
  refine wpAny_newFunctionEnv_cells S.kind hkind fun env he s1 x => ?_
  subst he
  refine ⟨lim.keeps x.toInCall.keep, codeAny_func ?_⟩
  obtain ⟨t, ht, hq⟩ := hbody A outer s H vs Q E (hr.deeper _) hgd hsp
  have I : Inv (cxOf (L2.CX P w) P w K mg base N qual scope f cdv A outer s H E) [] (start N vs) H s1 := inv_start S hr.hd e0 hl r x
  refine wpAny_mono (ht.run [] s1 (start N vs) H _ I hq) (fun fl s' hs => ?_) fun e s' hs => hs
  have fin : ∀ {σ' : L2.St} {H' : Hp} {v : V} {u : Value}, Inv (cxOf (L2.CX P w) P w K mg base N qual scope f cdv A outer s H E) [] σ' H' s' → RelV v u → Q v H' → L2.CE outer P w H s Q u s' :=
    fun {σ' H' v u} J rv q => ⟨v, H', J.os, J.bare, J.base, J.hok, rv, q⟩
  cases fl with
  | ret u =>
    obtain ⟨v, σ', H', J, rv, q⟩ := hs
    exact fin J rv q
  | next =>
    obtain ⟨σ', H', J, q⟩ := hs
    exact fin (v := V.non) (u := Value.none) J rfl q
  | brk =>
    obtain ⟨_, _, _, q⟩ := hs
    exact False.elim q
  | cont =>
    obtain ⟨_, _, _, q⟩ := hs
    exact False.elim q

/-! ### from a body to what it computes -/
def msOf (l : List Md) : Ms := fun i => l.getD i {}
/-- the changed arguments alone -/
def outsR (pm : Ms) (n : Nat) (r : Rho) : Rho := (List.range n).map fun i => if (pm i).fx = true then (r[i]?).join else none
def bodyF (pm : Ms) (n m : Nat) (g : Rho → SR) : FS := fun ds => match g (ds.map some ++ List.replicate m none) with
  | .rt d r => .ok d (outsR pm n r)
  | .nx r => .ok .none (outsR pm n r)
  | .exc c x r => .exc c x (outsR pm n r)
  | _ => .bad
section
variable {w : World} {K : PySem.W.Frag} {ms : Ms} {σ : L2.St} {H H' : Hp} {r : Rho} {O O' : Own} {G : Gh}
theorem outsR_at {pm : Ms} {n : Nat} {r : Rho} {i : Nat} {d : D} (h : (outsR pm n r)[i]? = some (some d)) : i < n ∧ (pm i).fx = true ∧ r[i]? = some (some d) := by
  unfold outsR at h
  rw [List.getElem?_map] at h
  cases q : (List.range n)[i]? with
  | none => rw [q] at h; cases h
  | some j =>
    rw [q] at h
    obtain ⟨hi, e2⟩ := List.getElem?_eq_some_iff.mp q
    rw [List.getElem_range] at e2
    rw [List.length_range] at hi
    subst e2
    have h2 : (if (pm i).fx = true then (r[i]?).join else none) = some d := Option.some.inj h
    split at h2
    · rename_i hf; exact ⟨hi, hf, join_some h2⟩
    · cases h2
theorem outsR_in {pm : Ms} {n : Nat} {r : Rho} {i : Nat} {d : D} (hi : i < n) (hf : (pm i).fx = true) (h : r[i]? = some (some d)) : (outsR pm n r)[i]? = some (some d) := by
  unfold outsR
  rw [List.getElem?_map, List.getElem?_range hi]
  show some (if (pm i).fx = true then (r[i]?).join else none) = _
  rw [if_pos hf, h]
  rfl
theorem start_get {N : List Str} {vs : List V} {i : Nat} (hi : i < vs.length) : (start N vs)[i]? = (vs.map some)[i]? := by
  unfold L2.start
  rw [List.getElem?_append_left (by rw [List.length_map]; exact hi)]
theorem Rel.start {pm : Ms} {N : List Str} {vs : List V} {ds : List D} {m : Nat} (h : Rel w K pm (vs.map some) H (ds.map some) O G) (hm : ∀ i, i < vs.length → ms i = pm i) (hN : N.length - vs.length = m) : Rel w K ms (L2.start N vs) H (ds.map some ++ List.replicate m none) O G := by
  have hl : ds.length = vs.length := by have := h.len; rw [List.length_map, List.length_map] at this; exact this
  have low : ∀ {i : Nat} {d : D}, (ds.map some ++ List.replicate m none)[i]? = some (some d) → i < ds.length ∧ (ds.map some)[i]? = some (some d) := fun {i d} e => by
    by_cases hi : i < ds.length
    · rw [List.getElem?_append_left (by rw [List.length_map]; exact hi)] at e
      exact ⟨hi, e⟩
    · rw [List.getElem?_append_right (by rw [List.length_map]; omega), List.getElem?_replicate] at e
      split at e <;> cases e
  refine ⟨?_, fun i d e => ?_, fun i hi => ?_, h.tr, h.dj, h.dG⟩
  · unfold L2.start
    rw [List.length_append, List.length_append, List.length_map, List.length_map, List.length_replicate, List.length_replicate, hl, hN]
  · obtain ⟨hi, e2⟩ := low e
    obtain ⟨v, e1, rs⟩ := h.slot i d e2
    refine ⟨v, by rw [start_get (by omega)]; exact e1, ?_⟩
    rw [hm i (by omega)]
    exact rs
  · refine h.emp i fun d e => hi d ?_
    have hlt : i < ds.length := by
      have := (List.getElem?_eq_some_iff.mp e).1
      rw [List.length_map] at this
      exact this
    rw [List.getElem?_append_left (by rw [List.length_map]; exact hlt)]
    exact e
/-- only the changed arguments are kept -/
theorem Rel.outs {pm : Ms} {N : List Str} {vs : List V} {n : Nat} {σ' : L2.St} {A : List Addr} (h : Rel w K ms σ' H' r O' (GA A G)) (hn : vs.length = n) (hm : ∀ i, i < n → ms i = pm i) (f : Fx ms (L2.start N vs) σ') :
    ∃ O2, Rel w K pm (vs.map some) H' (outsR pm n r) O2 (GA A G) ∧ ∀ a, Ow O2 (GA A G) a → Ow O' (GA A G) a := by
  have sub : ∀ a, Ow (fun i => if i < n ∧ (pm i).fx = true then O' i else []) (GA A G) a → Ow O' (GA A G) a := fun a z => by
    rcases z with g | ⟨i, hi⟩
    · exact .inl g
    · have hi : a ∈ (if i < n ∧ (pm i).fx = true then O' i else []) := hi
      split at hi
      · exact .inr ⟨i, hi⟩
      · cases hi
  refine ⟨fun i => if i < n ∧ (pm i).fx = true then O' i else [], ⟨?_, fun i d e => ?_, fun i hi => ?_, h.tr, fun i j a hi hj => ?_, fun i a hi => ?_⟩, sub⟩
  · unfold outsR
    rw [List.length_map, List.length_range, List.length_map, hn]
  · obtain ⟨hi, hf, e2⟩ := outsR_at e
    obtain ⟨v, e1, rs⟩ := h.slot i d e2
    have hf' : (ms i).fx = true := by rw [hm i hi]; exact hf
    rw [f.at_ i hf', start_get (by omega)] at e1
    refine ⟨v, e1, ?_⟩
    simp only [hi, hf, and_self, if_true]
    rw [← hm i hi]
    exact rs.mono (msk_less sub) fun _ _ _ z => z
  · by_cases q : i < n ∧ (pm i).fx = true
    · simp only [q, and_self, if_true]
      exact h.emp i fun d e => hi d (outsR_in q.1 q.2 e)
    · simp only [q, if_false]
  · have hi : a ∈ (if i < n ∧ (pm i).fx = true then O' i else []) := hi
    have hj : a ∈ (if j < n ∧ (pm j).fx = true then O' j else []) := hj
    split at hi
    · split at hj
      · exact h.dj i j a hi hj
      · cases hj
    · cases hi
  · have hi : a ∈ (if i < n ∧ (pm i).fx = true then O' i else []) := hi
    split at hi
    · exact h.dG i a hi
    · cases hi
end
/-- A def keeps its promise, by its body -/
theorem fnG_body {P : Program} {w : World} {K : PySem.W.Frag} {mg : Str → Option Value} {base : Heap} {k : Nat} {f : Addr} {fd : FuncData} {x qual : Str} {params : Arguments} {body : List Stmt} {scope : Scope} {dvs : List V} {kws : List (Str × V)}
    {N ps : List Str} {pm ms : Ms} {rs : Shp} {n m : Nat} {g : Rho → SR} (FD : FunD K x qual params body scope dvs kws f fd) (S : FnScope N ps scope) (hn : ps.length = n) (hm : N.length - n = m) (hms : ∀ i, i < n → ms i = pm i) (hrn : rs = .pur ∨ ∀ (ds : List D) (r : Rho), g (ds.map some ++ List.replicate m none) ≠ .nx r)
    (hb : ∀ (cdv : Value) (A : Around) (outer : List Env) (s : Shared) (H : Hp) (E : XK), Room k (A.deeper (envOfC qual scope s.heap.objs.size f cdv)) → (A.deeper (envOfC qual scope s.heap.objs.size f cdv)).guards = some [] →
      Takes (cxOf (L2.CX P w) P w K mg base N qual scope f cdv A outer s H E) (fun cls d _ H' => E cls d H') → CSs (cxOf (L2.CX P w) P w K mg base N qual scope f cdv A outer s H E) (fun cls d _ H' => E cls d H') ms rs body g) :
    FnG P w K mg base (k + 1) f fd ps (spF w K mg pm rs n (bodyF pm n m g)) := by
  obtain ⟨oc, od, dV, kV, doc, pmv, an, cdv, ct, osl, rfl, lk, hcd, _, _⟩ := FD.ex
  refine fnG_of lk hcd S (fun vs H Q E ⟨ds, O, G, h1, _⟩ => h1.trans hn.symm) fun A outer s H vs Q E hr hgd ⟨ds, O, G, hv, hd, R, h⟩ => ?_
  refine ⟨_, hb cdv A outer s H E hr hgd (takes_of rfl rfl rfl rfl), ds.map some ++ List.replicate m none, O, G, R.start (ms := ms) (fun i hi => hms i (by omega)) (by rw [hv]; exact hm), ?_⟩
  unfold bodyF at h
  have ext2 : ∀ {A : List Addr} {H' : Hp} {O' O2 : Own}, Ext H O G H' O' (GA A G) → (∀ a, Ow O2 (GA A G) a → Ow O' (GA A G) a) → Ext H O G H' O2 (GA A G) := fun e q => ⟨e.sm.trans (msk_less q), e.gh⟩
  cases e : g (ds.map some ++ List.replicate m none) with
  | rt d r =>
    rw [e] at h
    intro v σ' H' O' B R' E' n' F' rp
    obtain ⟨O2, R2, q⟩ := R'.outs (N := N) (vs := vs) (pm := pm) hv hms F'
    exact h v H' O2 B R2 (ext2 E' q) n' (rp.mono (msk_less q) fun _ _ _ z => z)
  | nx r =>
    rw [e] at h
    intro σ' H' O' R' E' F'
    rcases hrn with rfl | hx
    · obtain ⟨O2, R2, q⟩ := (Rel.outs (A := []) (N := N) (vs := vs) (pm := pm) (by rw [ga_nil]; exact R') hv hms F')
      refine h .non H' O2 [] R2 (ext2 (by rw [ga_nil]; exact E') q) (fun _ z => nomatch z) (.pur .non)
    · exact absurd e (hx ds r)
  | exc c y r =>
    rw [e] at h
    intro cv dx σ' H' O' R' E' F' ex
    obtain ⟨O2, R2, q⟩ := (Rel.outs (A := []) (N := N) (vs := vs) (pm := pm) (by rw [ga_nil]; exact R') hv hms F')
    have E2 := ext2 (by rw [ga_nil]; exact E') q
    rw [ga_nil] at R2 E2
    exact h cv dx H' O2 R2 E2 ex
  | bk r => rw [e] at h; exact False.elim h
  | ct r => rw [e] at h; exact False.elim h
  | bad => rw [e] at h; exact False.elim h

/-! ### a call -/
inductive Arg where
  | e (f : Rho → R D)
  | s (i : Nat)
def argsR : List Arg → Rho → R (List Opd)
  | [] => aNil
  | .e f :: as => aCons (oVal f) (argsR as)
  | .s i :: as => aCons (oSlot i) (argsR as)
def slotAt (as : List Arg) (j : Nat) : Option Nat := match as[j]? with
  | some (.s i) => some i
  | _ => none
/-- what the changed arguments are is put back -/
def putA : List Arg → Rho → Rho → Rho
  | [], _, r => r
  | .e _ :: as, ro, r => putA as ro.tail r
  | .s i :: as, ro, r => putA as ro.tail (r.set i (ro.head?.join))
def eFn (F : FS) (as : List Arg) : Rho → R D := fun r => (argsR as r).bind fun os r1 => match gets r1 os with
  | some ds => match F ds with
    | .ok d ro => .ok d (putA as ro r1)
    | .exc c x ro => .exc c x (putA as ro r1)
    | .bad => .bad
  | none => .bad
inductive AOk : List Arg → List Opd → Prop
  | nil : AOk [] []
  | e {f : Rho → R D} {d : D} {as : List Arg} {os : List Opd} : AOk as os → AOk (.e f :: as) (.val d :: os)
  | s {i : Nat} {as : List Arg} {os : List Opd} : AOk as os → AOk (.s i :: as) (.slot i :: os)
theorem argsR_ok {B : Str → D → Rho → Prop} : ∀ {as : List Arg} {r : Rho} {A : List Opd → Rho → Prop}, (argsR as r).on A B → (argsR as r).on (fun os r' => AOk as os ∧ A os r') B
  | [], r, A, h => ⟨.nil, h⟩
  | .e f :: as, r, A, h => by
    unfold argsR aCons oVal at h ⊢
    rw [on_bind, on_bind] at h ⊢
    refine h.mono (fun d r1 h1 => ?_) fun _ _ _ z => z
    have h2 : (argsR as r1).on (fun os r2 => (R.ok (.val d :: os) r2).on A B) B := by
      have h1 : ((argsR as r1).bind fun os r2 => .ok (.val d :: os) r2).on A B := h1
      rw [on_bind] at h1
      exact h1
    show ((argsR as r1).bind fun os r2 => .ok (.val d :: os) r2).on _ B
    rw [on_bind]
    exact (argsR_ok h2).mono (fun os r2 ⟨a, b⟩ => ⟨.e a, b⟩) fun _ _ _ z => z
  | .s i :: as, r, A, h => by
    unfold argsR aCons at h ⊢
    rw [on_bind] at h ⊢
    unfold oSlot at h ⊢
    cases e : (r[i]?).join with
    | none => rw [e] at h; exact False.elim h
    | some d =>
      rw [e] at h
      have h1 : ((argsR as r).bind fun os r2 => .ok (.slot i :: os) r2).on A B := h
      rw [on_bind] at h1
      show ((argsR as r).bind fun os r2 => .ok (.slot i :: os) r2).on _ B
      rw [on_bind]
      exact (argsR_ok h1).mono (fun os r2 ⟨a, b⟩ => ⟨.s a, b⟩) fun _ _ _ z => z
theorem slotAt_zero {a : Arg} {as : List Arg} {j : Nat} : slotAt (a :: as) (j + 1) = slotAt as j := by unfold slotAt; rw [List.getElem?_cons_succ]
theorem putA_len : ∀ {as : List Arg} {ro r : Rho}, (putA as ro r).length = r.length
  | [], _, _ => rfl
  | .e _ :: as, ro, r => putA_len (as := as)
  | .s i :: as, ro, r => by unfold putA; rw [putA_len (as := as), List.length_set]
/-- no slot stands twice -/
def NoTw (as : List Arg) : Prop := ∀ j j' i, slotAt as j = some i → slotAt as j' = some i → j = j'
theorem NoTw.tail {a : Arg} {as : List Arg} (h : NoTw (a :: as)) : NoTw as := fun j j' i h1 h2 => by
  have := h (j + 1) (j' + 1) i (by rw [slotAt_zero]; exact h1) (by rw [slotAt_zero]; exact h2)
  omega
theorem putA_out : ∀ {as : List Arg} {ro r : Rho} {i : Nat}, (∀ j, slotAt as j ≠ some i) → (putA as ro r)[i]? = r[i]?
  | [], _, _, _, _ => rfl
  | .e _ :: as, ro, r, i, h => putA_out (as := as) fun j e => h (j + 1) (by rw [slotAt_zero]; exact e)
  | .s k :: as, ro, r, i, h => by
    unfold putA
    rw [putA_out (as := as) fun j e => h (j + 1) (by rw [slotAt_zero]; exact e), List.getElem?_set_ne fun e => h 0 (by rw [e]; rfl)]
theorem putA_in : ∀ {as : List Arg} {ro r : Rho} {i j : Nat}, NoTw as → slotAt as j = some i → i < r.length → (putA as ro r)[i]? = some ((ro[j]?).join)
  | [], _, _, _, j, _, h, _ => by cases h
  | .e _ :: as, ro, r, i, 0, _, h, _ => by cases h
  | .e _ :: as, ro, r, i, j + 1, n, h, hl => by
    rw [slotAt_zero] at h
    unfold putA
    rw [putA_in (as := as) n.tail h hl, List.getElem?_tail]
  | .s k :: as, ro, r, i, 0, n, h, hl => by
    have e : k = i := Option.some.inj h
    subst e
    unfold putA
    rw [putA_out (as := as) fun j e => by
      have := n 0 (j + 1) k rfl (by rw [slotAt_zero]; exact e)
      omega, List.getElem?_set_self hl, List.head?_eq_getElem?]
  | .s k :: as, ro, r, i, j + 1, n, h, hl => by
    rw [slotAt_zero] at h
    unfold putA
    rw [putA_in (as := as) n.tail h (by rw [List.length_set]; exact hl), List.getElem?_tail]
/-- the modes of arguments and parameters go together -/
def okArgs (ms pm : Ms) (as : List Arg) : Bool := (List.range as.length).all fun j => match as[j]? with
  | some (.s i) => decide ((pm j).sh = (ms i).sh) && (pm j).fx && decide ((ms i).sh ≠ .pur) && (List.range as.length).all fun j' => match as[j']? with
    | some (.s i') => decide (i = i' → j = j')
    | _ => true
  | some (.e _) => decide ((pm j).sh = .pur)
  | none => true
theorem okArgs_s {ms pm : Ms} {as : List Arg} (h : okArgs ms pm as = true) {j i : Nat} (e : slotAt as j = some i) : (pm j).sh = (ms i).sh ∧ (ms i).sh ≠ .pur ∧ ∀ j', slotAt as j' = some i → j = j' := by
  unfold slotAt at e
  cases q : as[j]? with
  | none => rw [q] at e; cases e
  | some a =>
    rw [q] at e
    cases a with
    | e f => cases e
    | s k =>
      cases e
      have hj := (List.getElem?_eq_some_iff.mp q).1
      have h1 := List.all_eq_true.mp h j (List.mem_range.mpr hj)
      rw [q] at h1
      simp only [Bool.and_eq_true, decide_eq_true_eq] at h1
      refine ⟨h1.1.1.1, h1.1.2, fun j' e' => ?_⟩
      unfold slotAt at e'
      cases q' : as[j']? with
      | none => rw [q'] at e'; cases e'
      | some a' =>
        rw [q'] at e'
        cases a' with
        | e f => cases e'
        | s k' =>
          cases e'
          have hj' := (List.getElem?_eq_some_iff.mp q').1
          have h2 := List.all_eq_true.mp h1.2 j' (List.mem_range.mpr hj')
          rw [q'] at h2
          exact of_decide_eq_true h2 rfl
theorem okArgs_e {ms pm : Ms} {as : List Arg} (h : okArgs ms pm as = true) {j : Nat} {f : Rho → R D} (e : as[j]? = some (.e f)) : (pm j).sh = .pur := by
  have hj := (List.getElem?_eq_some_iff.mp e).1
  have h1 := List.all_eq_true.mp h j (List.mem_range.mpr hj)
  rw [e] at h1
  exact of_decide_eq_true h1
theorem AOk.len : ∀ {as : List Arg} {os : List Opd}, AOk as os → as.length = os.length
  | _, _, .nil => rfl
  | _, _, .e h => congrArg Nat.succ h.len
  | _, _, .s h => congrArg Nat.succ h.len
theorem AOk.at_ : ∀ {as : List Arg} {os : List Opd} {j : Nat} {o : Opd}, AOk as os → os[j]? = some o → (∃ f d, as[j]? = some (.e f) ∧ o = .val d) ∨ ∃ i, slotAt as j = some i ∧ o = .slot i
  | _, _, _, _, .nil, q => by simp at q
  | _, _, 0, _, AOk.e h, q => by cases q; exact .inl ⟨_, _, rfl, rfl⟩
  | _, _, 0, _, AOk.s h, q => by cases q; exact .inr ⟨_, rfl, rfl⟩
  | _, _, j + 1, o, AOk.e h, q => by
    rcases AOk.at_ (j := j) h (by simpa using q) with ⟨f, d, e1, e2⟩ | ⟨i, e1, e2⟩
    · exact .inl ⟨f, d, by rw [List.getElem?_cons_succ]; exact e1, e2⟩
    · exact .inr ⟨i, by rw [slotAt_zero]; exact e1, e2⟩
  | _, _, j + 1, o, AOk.s h, q => by
    rcases AOk.at_ (j := j) h (by simpa using q) with ⟨f, d, e1, e2⟩ | ⟨i, e1, e2⟩
    · exact .inl ⟨f, d, by rw [List.getElem?_cons_succ]; exact e1, e2⟩
    · exact .inr ⟨i, by rw [slotAt_zero]; exact e1, e2⟩
theorem RepOs.len {K : PySem.W.Frag} {M : Hp} {σ : L2.St} : ∀ {vs : List V} {os : List Opd}, RepOs K M σ vs os → vs.length = os.length
  | _, _, .nil => rfl
  | _, _, .cons _ b => congrArg Nat.succ b.len
theorem RepOs.at_ {K : PySem.W.Frag} {M : Hp} {σ : L2.St} : ∀ {vs : List V} {os : List Opd} {j : Nat} {o : Opd}, RepOs K M σ vs os → os[j]? = some o → ∃ v, vs[j]? = some v ∧ RepO K M σ v o
  | _, _, _, _, .nil, e => by simp at e
  | _, _, 0, _, .cons a _, e => by cases e; exact ⟨_, rfl, a⟩
  | _, _, j + 1, o, .cons _ b, e => by
    obtain ⟨v, e1, e2⟩ := RepOs.at_ (j := j) b (by simpa using e)
    exact ⟨v, by simpa using e1, e2⟩
theorem gets_at {r : Rho} : ∀ {os : List Opd} {ds : List D} {j : Nat} {d : D}, gets r os = some ds → ds[j]? = some d → ∃ o, os[j]? = some o ∧ o.get r = some d
  | [], _, _, _, h, e => by cases h; simp at e
  | o :: os, ds, j, d, h, e => by
    obtain ⟨d0, h1, h⟩ := bind_some h
    obtain ⟨ds0, h2, h⟩ := bind_some h
    cases h
    cases j with
    | zero => cases e; exact ⟨o, rfl, h1⟩
    | succ j =>
      obtain ⟨o', e1, e2⟩ := gets_at (j := j) h2 (by simpa using e)
      exact ⟨o', by simpa using e1, e2⟩
theorem gets_len {r : Rho} : ∀ {os : List Opd} {ds : List D}, gets r os = some ds → ds.length = os.length
  | [], _, h => by cases h; rfl
  | o :: os, ds, h => by
    obtain ⟨d0, h1, h⟩ := bind_some h
    obtain ⟨ds0, h2, h⟩ := bind_some h
    cases h
    exact congrArg Nat.succ (gets_len h2)
section
variable {X : Cx} {W : WX} {ms pm : Ms} {rs : Shp} {σ : L2.St} {H : Hp} {r : Rho} {O : Own} {G : Gh}
/-- the callee's part of what is owned -/
def ownC (as : List Arg) (O : Own) : Own := fun j => match slotAt as j with
  | some i => O i
  | none => []
def gC (as : List Arg) (O : Own) (G : Gh) : Gh := fun a => G a ∨ ∃ i, (∀ j, slotAt as j ≠ some i) ∧ a ∈ O i
theorem ow_c {as : List Arg} {a : Addr} : Ow (ownC as O) (gC as O G) a ↔ Ow O G a := by
  constructor
  · rintro ((g | ⟨i, _, hi⟩) | ⟨j, hj⟩)
    · exact .inl g
    · exact .inr ⟨i, hi⟩
    · unfold ownC at hj
      split at hj
      · exact .inr ⟨_, hj⟩
      · cases hj
  · rintro (g | ⟨i, hi⟩)
    · exact .inl (.inl g)
    · by_cases q : ∃ j, slotAt as j = some i
      · obtain ⟨j, e⟩ := q
        refine .inr ⟨j, ?_⟩
        unfold ownC
        rw [e]
        exact hi
      · exact .inl (.inr ⟨i, fun j e => q ⟨j, e⟩, hi⟩)
open Classical in
/-- behind the call -/
noncomputable def ownB (as : List Arg) (O Oc : Own) : Own := fun i => if h : ∃ j, slotAt as j = some i then Oc (choose h) else O i
theorem ownB_in {as : List Arg} {O Oc : Own} {i j : Nat} (n : NoTw as) (h : slotAt as j = some i) : ownB as O Oc i = Oc j := by
  have hh : ∃ j, slotAt as j = some i := ⟨j, h⟩
  unfold ownB
  rw [dif_pos hh]
  exact congrArg Oc (n _ _ i (Classical.choose_spec hh) h)
theorem ownB_out {as : List Arg} {O Oc : Own} {i : Nat} (h : ∀ j, slotAt as j ≠ some i) : ownB as O Oc i = O i := by
  unfold ownB
  rw [dif_neg fun ⟨j, e⟩ => h j e]
theorem noTw_of {as : List Arg} (h : okArgs ms pm as = true) : NoTw as := fun j j' i h1 h2 => (okArgs_s h h1).2.2 j' h2
theorem Rel.enter {as : List Arg} {os : List Opd} {vs : List V} {ds : List D} (R : Rel X.w X.K ms σ H r O G) (ok : okArgs ms pm as = true) (ao : AOk as os) (ro : RepOs X.K (msk H (Ow O G)) σ vs os) (hg : gets r os = some ds) :
    vs.length = as.length ∧ ds.length = as.length ∧ Rel X.w X.K pm (vs.map some) H (ds.map some) (ownC as O) (gC as O G) := by
  have l1 : vs.length = as.length := ro.len.trans ao.len.symm
  have l2 : ds.length = as.length := (gets_len hg).trans ao.len.symm
  have me : msk H (Ow (ownC as O) (gC as O G)) = msk H (Ow O G) := by rw [show Ow (ownC as O) (gC as O G) = Ow O G from funext fun a => propext ow_c]
  refine ⟨l1, l2, ⟨by rw [List.length_map, List.length_map, l1, l2], fun j d e => ?_, fun j hj => ?_, ?_, fun j j' a hj hj' => ?_, fun j a hj => ?_⟩⟩
  · rw [me]
    have e' : ds[j]? = some d := by
      rw [List.getElem?_map] at e
      cases q : ds[j]? with
      | none => rw [q] at e; cases e
      | some y => rw [q] at e; exact Option.some.inj e
    obtain ⟨o, eo, og⟩ := gets_at hg e'
    obtain ⟨v, ev, rv⟩ := ro.at_ eo
    refine ⟨v, by rw [List.getElem?_map, ev]; rfl, ?_⟩
    rcases ao.at_ eo with ⟨f, d2, e1, rfl⟩ | ⟨i, e1, rfl⟩
    · cases og
      have hs := okArgs_e ok e1
      have hc : ownC as O j = [] := by unfold ownC slotAt; rw [e1]
      rw [hs, hc]
      exact .pur rv
    · obtain ⟨v2, ev2, rs⟩ := R.slot i d (join_some (dropX_some og))
      have rv' : σ[i]? = some (some v) := rv
      rw [rv'] at ev2
      cases ev2
      have hc : ownC as O j = O i := by unfold ownC; rw [e1]
      rw [(okArgs_s ok e1).1, hc]
      exact rs
  · unfold ownC
    cases q : slotAt as j with
    | none => rfl
    | some i =>
      exfalso
      have hlt : j < as.length := by
        unfold slotAt at q
        cases z : as[j]? with
        | none => rw [z] at q; cases q
        | some _ => exact (List.getElem?_eq_some_iff.mp z).1
      exact hj (ds[j]'(by omega)) (by rw [List.getElem?_map, List.getElem?_eq_getElem (by omega)]; rfl)
  · rintro a (g | ⟨i, _, hi⟩)
    · exact R.tr a g
    · exact R.trO a (.inr ⟨i, hi⟩)
  · unfold ownC at hj hj'
    split at hj
    · rename_i i e
      split at hj'
      · rename_i i' e'
        have := R.dj i i' a hj hj'
        subst this
        exact (okArgs_s ok e).2.2 j' e'
      · cases hj'
    · cases hj
  · unfold ownC at hj
    split at hj
    · rename_i i e
      rintro (g | ⟨i', h1, h2⟩)
      · exact R.dG i a hj g
      · have := R.dj i i' a hj h2
        subst this
        exact h1 j e
    · cases hj
theorem Rel.back {as : List Arg} {vs : List V} {H' : Hp} {ro : Rho} {Oc : Own} {A : List Addr} (R : Rel X.w X.K ms σ H r O G) (ok : okArgs ms pm as = true) (hv : ∀ j i, slotAt as j = some i → ∃ v, vs[j]? = some v ∧ σ[i]? = some (some v))
    (Rc : Rel X.w X.K pm (vs.map some) H' ro Oc (GA A (gC as O G))) (Ec : Ext H (ownC as O) (gC as O G) H' Oc (GA A (gC as O G))) (nA : ∀ a ∈ A, ¬ gC as O G a) (hl : vs.length = as.length) :
    (∀ a, Ow (ownB as O Oc) (GA A G) a ↔ Ow Oc (GA A (gC as O G)) a) ∧ Rel X.w X.K ms σ H' (putA as ro r) (ownB as O Oc) (GA A G) ∧ Ext H O G H' (ownB as O Oc) (GA A G) ∧ (∀ a ∈ A, ¬ G a) := by
  have n := noTw_of ok
  have hj : ∀ {j : Nat} {a : Addr}, a ∈ Oc j → ∃ i, slotAt as j = some i := fun {j a} h => by
    cases q : slotAt as j with
    | some i => exact ⟨i, rfl⟩
    | none =>
      exfalso
      by_cases z : ∃ d, ro[j]? = some (some d)
      · obtain ⟨d, e⟩ := z
        obtain ⟨v, e1, rs⟩ := Rc.slot j d e
        have hjl : j < as.length := by
          have := (List.getElem?_eq_some_iff.mp e1).1
          rw [List.length_map, hl] at this
          exact this
        have hs : (pm j).sh = .pur := by
          cases z2 : as[j]? with
          | none => rw [List.getElem?_eq_getElem hjl] at z2; cases z2
          | some b =>
            cases b with
            | e f => exact okArgs_e ok z2
            | s i => unfold slotAt at q; rw [z2] at q; cases q
        rw [hs] at rs
        rw [rs.purI.1] at h
        cases h
      · rw [Rc.emp j fun d e => z ⟨d, e⟩] at h
        cases h
  have ow : ∀ a, Ow (ownB as O Oc) (GA A G) a ↔ Ow Oc (GA A (gC as O G)) a := fun a => by
    constructor
    · rintro ((g | g) | ⟨i, hi⟩)
      · exact .inl (.inl g)
      · exact .inl (.inr (.inl g))
      · by_cases q : ∃ j, slotAt as j = some i
        · obtain ⟨j, e⟩ := q
          rw [ownB_in n e] at hi
          exact .inr ⟨j, hi⟩
        · have q' : ∀ j, slotAt as j ≠ some i := fun j e => q ⟨j, e⟩
          rw [ownB_out q'] at hi
          exact .inl (.inr (.inr ⟨i, q', hi⟩))
    · rintro ((g | g | ⟨i, h1, h2⟩) | ⟨j, hj'⟩)
      · exact .inl (.inl g)
      · exact .inl (.inr g)
      · exact .inr ⟨i, by rw [ownB_out h1]; exact h2⟩
      · obtain ⟨i, e⟩ := hj hj'
        exact .inr ⟨i, by rw [ownB_in n e]; exact hj'⟩
  have me : msk H' (Ow (ownB as O Oc) (GA A G)) = msk H' (Ow Oc (GA A (gC as O G))) := by rw [show Ow (ownB as O Oc) (GA A G) = _ from funext fun a => propext (ow a)]
  have me0 : msk H (Ow (ownC as O) (gC as O G)) = msk H (Ow O G) := by rw [show Ow (ownC as O) (gC as O G) = Ow O G from funext fun a => propext ow_c]
  have sm : Same (msk H (Ow O G)) (msk H' (Ow (ownB as O Oc) (GA A G))) := by rw [me, ← me0]; exact Ec.sm
  refine ⟨ow, ⟨by rw [putA_len]; exact R.len, fun i d e => ?_, fun i hi => ?_, ?_, fun i i' a hi hi' => ?_, fun i a hi => ?_⟩, ⟨sm, fun a g => ⟨.inr g, (Ec.gh a (.inl g)).2⟩⟩, fun a ha g => nA a ha (.inl g)⟩
  · by_cases q : ∃ j, slotAt as j = some i
    · obtain ⟨j, ej⟩ := q
      have hlt : i < r.length := by
        have := (List.getElem?_eq_some_iff.mp e).1
        rw [putA_len] at this
        exact this
      rw [putA_in n ej hlt] at e
      obtain ⟨v', e1, rs⟩ := Rc.slot j d (join_some (Option.some.inj e))
      obtain ⟨v, ev, ei⟩ := hv j i ej
      rw [List.getElem?_map, ev] at e1
      cases e1
      refine ⟨_, ei, ?_⟩
      rw [ownB_in n ej, me, ← (okArgs_s ok ej).1]
      exact rs
    · have q' : ∀ j, slotAt as j ≠ some i := fun j e => q ⟨j, e⟩
      rw [putA_out q'] at e
      obtain ⟨v, e1, rs⟩ := R.slot i d e
      refine ⟨v, e1, ?_⟩
      rw [ownB_out q']
      refine rs.mono sm fun a ha o ho => ?_
      rw [(Ec.gh a (.inr ⟨i, q', ha⟩)).2]
      exact ho
  · by_cases q : ∃ j, slotAt as j = some i
    · obtain ⟨j, ej⟩ := q
      rw [ownB_in n ej]
      refine Rc.emp j fun d e => ?_
      obtain ⟨v, ev, ei⟩ := hv j i ej
      have hlt : i < r.length := by rw [R.len]; exact (List.getElem?_eq_some_iff.mp ei).1
      exact hi d (by rw [putA_in n ej hlt, e]; rfl)
    · have q' : ∀ j, slotAt as j ≠ some i := fun j e => q ⟨j, e⟩
      rw [ownB_out q']
      exact R.emp i fun d e => hi d (by rw [putA_out q']; exact e)
  · rintro a (g | g)
    · exact Rc.tr a (.inl g)
    · exact Rc.tr a (.inr (.inl g))
  · by_cases q : ∃ j, slotAt as j = some i
    · obtain ⟨j, ej⟩ := q
      rw [ownB_in n ej] at hi
      by_cases q2 : ∃ j, slotAt as j = some i'
      · obtain ⟨j2, ej2⟩ := q2
        rw [ownB_in n ej2] at hi'
        have := Rc.dj j j2 a hi hi'
        subst this
        rw [ej] at ej2
        exact Option.some.inj ej2
      · have q' : ∀ j, slotAt as j ≠ some i' := fun j e => q2 ⟨j, e⟩
        rw [ownB_out q'] at hi'
        exact absurd (.inr (.inr ⟨i', q', hi'⟩)) (Rc.dG j a hi)
    · have q' : ∀ j, slotAt as j ≠ some i := fun j e => q ⟨j, e⟩
      rw [ownB_out q'] at hi
      by_cases q2 : ∃ j, slotAt as j = some i'
      · obtain ⟨j2, ej2⟩ := q2
        rw [ownB_in n ej2] at hi'
        exact absurd (.inr (.inr ⟨i, q', hi⟩)) (Rc.dG j2 a hi')
      · have q2' : ∀ j, slotAt as j ≠ some i' := fun j e => q2 ⟨j, e⟩
        rw [ownB_out q2'] at hi'
        exact R.dj i i' a hi hi'
  · by_cases q : ∃ j, slotAt as j = some i
    · obtain ⟨j, ej⟩ := q
      rw [ownB_in n ej] at hi
      rintro (g | g)
      · exact Rc.dG j a hi (.inl g)
      · exact Rc.dG j a hi (.inr (.inl g))
    · have q' : ∀ j, slotAt as j ≠ some i := fun j e => q ⟨j, e⟩
      rw [ownB_out q'] at hi
      rintro (g | g)
      · exact nA a g (.inr ⟨i, q', hi⟩)
      · exact R.dG i a hi g
variable {k : Nat} {f : Addr} {fd : FuncData} {ps : List Str} {n : Nat} {F : FS} {x : Str} {p pos : Pos} {e : Expr} {es : List Expr} {as : List Arg}
/-- a call's reading -/
theorem fn_read (ok : okArgs ms pm as = true) (hn : as.length = n) {Q : VK} (h : tEo X W ms rs (eFn F as) σ H Q) : tA X W ms (argsR as) σ H fun vs H1 => spF X.w X.K X.mg pm rs n F vs H1 Q (WE W σ) := by
  obtain ⟨r, O, G, R, h⟩ := h
  unfold eFn at h
  rw [on_bind] at h
  refine tA_step R (argsR_ok h) fun os r1 vs H1 O1 ⟨ao, h1⟩ R1 E1 p1 => ?_
  cases hg : gets r1 os with
  | none => rw [hg] at h1; exact False.elim h1
  | some ds =>
    rw [hg] at h1
    obtain ⟨l1, l2, Rc⟩ := R1.enter (pm := pm) ok ao p1 hg
    have hv : ∀ j i, slotAt as j = some i → ∃ v, vs[j]? = some v ∧ σ[i]? = some (some v) := fun j i ej => by
      have hlt : j < os.length := by
        rw [← ao.len]
        unfold slotAt at ej
        cases z : as[j]? with
        | none => rw [z] at ej; cases ej
        | some _ => exact (List.getElem?_eq_some_iff.mp z).1
      have eo := List.getElem?_eq_getElem hlt
      obtain ⟨v, ev, rv⟩ := p1.at_ eo
      refine ⟨v, ev, ?_⟩
      rcases ao.at_ eo with ⟨f, d, e1, e2⟩ | ⟨i', e1, e2⟩
      · unfold slotAt at ej; rw [e1] at ej; cases ej
      · rw [ej] at e1
        cases e1
        rw [e2] at rv
        exact rv
    refine ⟨ds, ownC as O1, gC as O1 G, l1.trans hn, l2.trans hn, Rc, ?_⟩
    simp only at h1
    cases hF : F ds with
    | bad => rw [hF] at h1; exact False.elim h1
    | ok d ro =>
      rw [hF] at h1
      intro v H' O' A R' E' nA rp
      obtain ⟨ow, R2, E2, n2⟩ := R1.back ok hv R' E' nA l1
      refine h1 v H' _ A R2 (E1.trans E2) n2 ?_
      rw [show Ow (ownB as O1 O') (GA A G) = Ow O' (GA A (gC as O1 G)) from funext fun a => propext (ow a)]
      exact rp
    | exc c y ro =>
      rw [hF] at h1
      intro cv dx H' O' R' E' ex
      obtain ⟨ow, R2, E2, n2⟩ := Rel.back (A := []) (ro := ro) (Oc := O') (vs := vs) (H' := H') R1 ok hv (by rw [ga_nil]; exact R') (by rw [ga_nil]; exact E') (fun _ z => nomatch z) l1
      rw [ga_nil] at R2 E2
      exact h1 cv dx H' _ R2 (E1.trans E2) ex
theorem run_fnG {sp : Sp} {E : XK} {pins : List (Addr × Obj)} {s : Shared} {Q : VK} {us : List Value} {vs : List V} (F : FnG X.prog X.w X.K X.mg X.base k f fd ps sp) (hr : Room k X.A) (hgd : X.A.guards = some []) (hb : Binds X.K fd ps []) (hx : PassesAt (L2.CX X.prog X.w) X σ E)
    (I : Inv X pins σ H s) (r : Vals vs us) (h : sp vs H Q E) : wpAny (model X.prog X.w) X.A (call (.ref f) us) (EP X pins σ Q) X.xe s := by
  have hl : us.length = ps.length := by rw [← r.length]; exact F.len _ _ _ _ h
  have b := hb s us I.kIn (by rw [List.append_nil]; exact hl)
  rw [List.append_nil] at b
  refine wpAny_call (codeAny_mono (F.run X.A X.stack s H ⟨us, []⟩ us vs Q E hr hgd I.env0 b r h) fun r s' hq => ?_)
  cases r with
  | error e => exact hx pins H s e s' I hq
  | ok fl =>
    cases fl with
    | ret u => exact I.after hq
    | next => exact False.elim hq
    | brk => exact False.elim hq
    | cont => exact False.elim hq
theorem ceo_fn (FN : FnG X.prog X.w X.K X.mg X.base k f fd ps (spF X.w X.K X.mg pm rs n F)) (hr : Room k X.A) (hgd : X.A.guards = some []) (tk : Takes X W) (hm : X.mg x = some (.ref f)) (hk : PySem.W.keepIn X.K (.ref f) = true) (hb : Binds X.K fd ps [])
    (ha : CA X W ms (e :: es) (argsR as)) (ok : okArgs ms pm as = true := by rfl) (hn : as.length = n := by rfl) (hg : Gl X x := by rfl) (hdb : (x == ("__debug__" : Str)) = false := by decide) (he : starEach (e :: es) X.env = (false, eval e X.env) :: starEach es X.env := by rfl) (hpl : (backTo pos (starEach es X.env)).any (·.1) = false := by rfl) :
    CEo X W ms rs (.Call (.Name x p) (e :: es) [] pos) (eFn F as) := by
  refine ⟨fun pins s σ H Q I h => ?_⟩
  refine wpAny_Call_Name_kw (ld_glob I hg hm ?_ hdb)
  refine PySem.W.callWith_K (h₀ := X.base) I.ok.mod.kin hk (thn (ha.run pos pins s σ H _ I (fn_read ok hn h)) fun us s1 ⟨vs, H1, I1, r, q⟩ => ⟨I1.kIn, ?_⟩) he hpl
  exact run_fnG FN hr hgd hb (passAt tk σ) I1 r q
theorem ce_fn (FN : FnG X.prog X.w X.K X.mg X.base k f fd ps (spF X.w X.K X.mg pm .pur n F)) (hr : Room k X.A) (hgd : X.A.guards = some []) (tk : Takes X W) (hm : X.mg x = some (.ref f)) (hk : PySem.W.keepIn X.K (.ref f) = true) (hb : Binds X.K fd ps [])
    (ha : CA X W ms (e :: es) (argsR as)) (ok : okArgs ms pm as = true := by rfl) (hn : as.length = n := by rfl) (hg : Gl X x := by rfl) (hdb : (x == ("__debug__" : Str)) = false := by decide) (he : starEach (e :: es) X.env = (false, eval e X.env) :: starEach es X.env := by rfl) (hpl : (backTo pos (starEach es X.env)).any (·.1) = false := by rfl) :
    CE X W ms (.Call (.Name x p) (e :: es) [] pos) (eFn F as) := ce_own (ceo_fn FN hr hgd tk hm hk hb ha ok hn hg hdb he hpl)
end
end DL
end

section
set_option maxHeartbeats 1000000
namespace DL
open PySem PySem.Spec PyProof.Rows L2

/-! ## the operators' meanings -/
section
variable {X : Cx}
/-- data of int shape -/
def dAdd : D → D → Option D
  | .int i, .int j => some (.int (i + j))
  | .str a, .str b => if a.length + b.length ≤ sizeLine then some (.str (a ++ b)) else none
  | _, _ => none
def dSub : D → D → Option D
  | .int i, .int j => some (.int (i - j))
  | _, _ => none
def i64 (i : Int) : Bool := decide (-(2 ^ 64) < i) && decide (i < 2 ^ 64)
theorem i64_ok {i : Int} (h : i64 i = true) : -(2 ^ 64) < i ∧ i < 2 ^ 64 := by
  unfold i64 at h
  obtain ⟨a, b⟩ := Bool.and_eq_true_iff.mp h
  exact ⟨of_decide_eq_true a, of_decide_eq_true b⟩
/-- a text some times -/
def strMul (x : Str) (n : Int) : Str := Txt.mul x n
def dMul : D → D → Option D
  | .int i, .int j => if (i64 i || i64 j) = true then some (.int (i * j)) else none
  | .str x, .int n => if (inR n && (decide (n < 1) || decide (x.length * n.toNat ≤ sizeLine))) = true then some (.str (strMul x n)) else none
  | _, _ => none
def dMod : D → D → Option D
  | .int i, .int j => if 0 < j then some (.int (i % j)) else none
  | _, _ => none
def dFdiv : D → D → Option D
  | .int i, .int j => if 0 < j ∧ j < 1073741824 then some (.int (i / j)) else none
  | _, _ => none
def rAdd : R2 := fun x y H Q => rI0 (fun i j => .int (i + j)) x y H Q ∨ ∃ i j, x = .str i ∧ y = .str j ∧ i.length + j.length ≤ sizeLine ∧ Q (.str (i ++ j)) H
theorem or_add : OpR X (binaryOp .Add) rAdd := op_add.or op_add_str
theorem sr_add : SemR X rAdd dAdd := fun x y a b d H W Q ra rb tr e q => by
  cases a <;> cases b <;> first | (cases e; done) | skip
  · cases e
    rw [ra.intI, rb.intI]
    exact .inl ⟨_, _, rfl, rfl, q _ H (Same.refl _) (.int _)⟩
  · obtain ⟨hz, rfl⟩ := ite_some e
    rw [ra.strI, rb.strI]
    exact .inr ⟨_, _, rfl, rfl, hz, q _ H (Same.refl _) (.str _)⟩
theorem sr_sub : SemR X (rI0 fun i j => .int (i - j)) dSub := fun x y a b d H W Q ra rb tr e q => by
  cases a <;> cases b <;> first | (cases e; done) | skip
  cases e
  rw [ra.intI, rb.intI]
  exact ⟨_, _, rfl, rfl, q _ H (Same.refl _) (.int _)⟩
theorem div_ge {a b : Int} (h : 1 < b) (ha : 0 ≤ a) (hb : a * b ≤ 16777216) : ¬ a > (2 ^ 63 - 1) / b := by
  intro q
  have h1 : (2 ^ 63 - 1) / b * b + (2 ^ 63 - 1) % b = 2 ^ 63 - 1 := Int.ediv_mul_add_emod _ _
  have h2 : (2 ^ 63 - 1) % b < b := Int.emod_lt_of_pos _ (by omega)
  have h3 : ((2 ^ 63 - 1) / b + 1) * b ≤ a * b := Int.mul_le_mul_of_nonneg_right (by omega) (by omega)
  rw [Int.add_mul, Int.one_mul] at h3
  have h4 : b ≤ 16777216 ∨ a = 0 := by
    by_cases z : a = 0
    · exact .inr z
    · left
      have : 1 * b ≤ a * b := Int.mul_le_mul_of_nonneg_right (by omega) (by omega)
      omega
  rcases h4 with h4 | h4
  · omega
  · subst h4
    have : 0 ≤ (2 ^ 63 - 1) / b := Int.ediv_nonneg (by decide) (by omega)
    omega
theorem mulOk_of {x : Str} {n : Int} (h : (inR n && (decide (n < 1) || decide (x.length * n.toNat ≤ sizeLine))) = true) : MulOk x n := by
  obtain ⟨h1, h2⟩ := Bool.and_eq_true_iff.mp h
  obtain ⟨h3, h4⟩ := inR_ok h1
  have hs : sizeLine = 16777216 := sizeLine_eq
  have bound : ¬ n < 1 → x.length * n.toNat ≤ 16777216 := fun q => by
    rw [decide_eq_false q, Bool.false_or] at h2
    have := of_decide_eq_true h2
    rw [hs] at this
    exact this
  refine ⟨?_, fun q c => ?_, fun q c => ?_⟩
  · rw [decide_eq_false (by omega), decide_eq_false (by omega)]; rfl
  · have b := bound q
    have hn : n ≠ 1 := fun z => by
      have c1 := (Bool.or_eq_false_iff.mp c).1
      rw [z] at c1
      exact absurd c1 (by decide)
    refine div_ge (by omega) (Int.natCast_nonneg _) ?_
    have : ((x.length * n.toNat : Nat) : Int) ≤ ((16777216 : Nat) : Int) := Int.ofNat_le.mpr b
    rw [Int.natCast_mul, Int.toNat_of_nonneg (by omega)] at this
    exact this
  · have b := bound q
    exact decide_eq_false (by rw [hs]; omega)
theorem op_mul_strD : OpR X (binaryOp .Mult) (fun x y H Q => ∃ a n, x = .str a ∧ y = .int n ∧ (inR n && (decide (n < 1) || decide (a.length * n.toNat ≤ sizeLine))) = true ∧ Q (.str (strMul a n)) H) := by
  intro pins s σ H x y v u Q I rx ry h
  obtain ⟨a, n, rfl, rfl, hz, q⟩ := h
  obtain ⟨t, rfl⟩ := rx
  obtain ⟨t', rfl⟩ := ry
  exact PySem.SB.mul (mulOk_of hz) fun t2 k => ⟨.str (strMul a n), H, I.tok k, ⟨_, rfl⟩, q⟩
def rMul : R2 := fun x y H Q => rI CMul (fun i j => .int (i * j)) x y H Q ∨ ∃ a n, x = .str a ∧ y = .int n ∧ (inR n && (decide (n < 1) || decide (a.length * n.toNat ≤ sizeLine))) = true ∧ Q (.str (strMul a n)) H
theorem or_mul : OpR X (binaryOp .Mult) rMul := op_mul.or op_mul_strD
theorem sr_mul : SemR X rMul dMul := fun x y a b d H W Q ra rb tr e q => by
  cases a <;> cases b <;> first | (cases e; done) | skip
  · obtain ⟨hz, rfl⟩ := ite_some e
    rw [ra.intI, rb.intI]
    refine .inl ⟨_, _, rfl, rfl, ?_, q _ H (Same.refl _) (.int _)⟩
    rcases Bool.or_eq_true_iff.mp hz with z | z
    · exact .inl (i64_ok z)
    · exact .inr (i64_ok z)
  · obtain ⟨hz, rfl⟩ := ite_some e
    rw [ra.strI, rb.intI]
    exact .inr ⟨_, _, rfl, rfl, hz, q _ H (Same.refl _) (.str _)⟩
theorem sr_mod : SemR X (rI (fun _ j => 0 < j) fun i j => .int (i % j)) dMod := fun x y a b d H W Q ra rb tr e q => by
  cases a <;> cases b <;> first | (cases e; done) | skip
  obtain ⟨hz, rfl⟩ := ite_some e
  rw [ra.intI, rb.intI]
  exact ⟨_, _, rfl, rfl, hz, q _ H (Same.refl _) (.int _)⟩
theorem sr_fdiv : SemR X (rI CDiv fun i j => .int (i / j)) dFdiv := fun x y a b d H W Q ra rb tr e q => by
  cases a <;> cases b <;> first | (cases e; done) | skip
  obtain ⟨hz, rfl⟩ := ite_some e
  rw [ra.intI, rb.intI]
  exact ⟨_, _, rfl, rfl, hz, q _ H (Same.refl _) (.int _)⟩

/-! comparisons -/
def dEqv (x y : D) : Option Bool := match x, y with
  | .int i, .int j => some (decide (i = j))
  | .str i, .str j => some (decide (i = j))
  | .bool i, .bool j => some (decide (i = j))
  | .none, .none => some true
  | .none, .int _ => some false
  | .int _, .none => some false
  | .none, .str _ => some false
  | .str _, .none => some false
  | .int _, .str _ => some false
  | .str _, .int _ => some false
  | x, y => if (SeqAt.shaped x && SeqAt.shaped y) = true then some (PyData.eqv x y) else none
def dEq (x y : D) : Option D := (dEqv x y).map .bool
def dNe (x y : D) : Option D := (dEqv x y).map fun b => .bool !b
def rEqA (K : PySem.W.Frag) : R2 := fun x y H Q => rEq x y H Q ∨ rEqD K x y H Q
def rNeA (K : PySem.W.Frag) : R2 := fun x y H Q => rNe x y H Q ∨ rNeD K x y H Q
theorem or_eq (hu : X.A.units + 64 < cLine) : OpR X (compareOp .Eq) (rEqA X.K) := op_eq.or (op_eqD hu)
theorem or_ne (hu : X.A.units + 64 < cLine) : OpR X (compareOp .NotEq) (rNeA X.K) := op_ne.or (op_neD hu)
theorem eqv_read {x y : V} {a b : D} {c : Bool} {H : Hp} {W : Gh} (ra : RepB X.K (msk H W) H x a) (rb : RepB X.K (msk H W) H y b) (e : dEqv a b = some c) :
    (scal x y = true ∧ c = decide (x = y)) ∨ (Dp X.K H x a ∧ Dp X.K H y b ∧ SeqAt.shaped a = true ∧ SeqAt.shaped b = true ∧ c = PyData.eqv a b) := by
  have gen : (if (SeqAt.shaped a && SeqAt.shaped b) = true then some (PyData.eqv a b) else none) = some c → (scal x y = true ∧ c = decide (x = y)) ∨ (Dp X.K H x a ∧ Dp X.K H y b ∧ SeqAt.shaped a = true ∧ SeqAt.shaped b = true ∧ c = PyData.eqv a b) := fun e => by
    obtain ⟨hz, rfl⟩ := ite_some e
    obtain ⟨h1, h2⟩ := Bool.and_eq_true_iff.mp hz
    exact .inr ⟨ra.rep.dp, rb.rep.dp, h1, h2, rfl⟩
  cases a <;> cases b <;> first | exact gen e | (refine .inl ?_; cases e; first | rw [ra.intI] | rw [ra.strI] | rw [ra.blI] | rw [ra.nonI]) <;> first | rw [rb.intI] | rw [rb.strI] | rw [rb.blI] | rw [rb.nonI]
  all_goals simp [scal]
theorem sr_eq : SemR X (rEqA X.K) dEq := fun x y a b d H W Q ra rb tr e q => by
  unfold dEq at e
  obtain ⟨c, e1, rfl⟩ := Option.map_eq_some_iff.mp e
  have q' := q (.bl c) H (Same.refl _) (.bl c)
  rcases eqv_read ra rb e1 with ⟨h1, rfl⟩ | ⟨h1, h2, h3, h4, rfl⟩
  · exact .inl ⟨h1, q'⟩
  · exact .inr ⟨_, _, h1, h2, h3, h4, q'⟩
theorem sr_ne : SemR X (rNeA X.K) dNe := fun x y a b d H W Q ra rb tr e q => by
  unfold dNe at e
  obtain ⟨c, e1, rfl⟩ := Option.map_eq_some_iff.mp e
  have q' := q (.bl !c) H (Same.refl _) (.bl !c)
  rcases eqv_read ra rb e1 with ⟨h1, rfl⟩ | ⟨h1, h2, h3, h4, rfl⟩
  · exact .inl ⟨h1, q'⟩
  · exact .inr ⟨_, _, h1, h2, h3, h4, q'⟩
/-- the order of ints, of texts -/
def dOrd (p : Int → Int → Bool) (q : List Nat → List Nat → Bool) : D → D → Option D
  | .int i, .int j => some (.bool (p i j))
  | .str a, .str b => some (.bool (q a.cps.toList b.cps.toList))
  | _, _ => none
def dLt := dOrd (fun i j => decide (i < j)) fun a b => decide (a < b)
def dLe := dOrd (fun i j => decide (i ≤ j)) fun a b => !decide (b < a)
def dGt := dOrd (fun i j => decide (j < i)) fun a b => decide (b < a)
def dGe := dOrd (fun i j => decide (j ≤ i)) fun a b => !decide (a < b)
def rOrd (p : Int → Int → Bool) (q : List Nat → List Nat → Bool) : R2 := fun x y H Q => rI0 (fun i j => .bl (p i j)) x y H Q ∨ ∃ i j, x = .str i ∧ y = .str j ∧ Q (.bl (q i.cps.toList j.cps.toList)) H
theorem sr_ord {p : Int → Int → Bool} {g : List Nat → List Nat → Bool} : SemR X (rOrd p g) (dOrd p g) := fun x y a b d H W Q ra rb tr e q => by
  cases a <;> cases b <;> first | (cases e; done) | skip
  · cases e
    rw [ra.intI, rb.intI]
    exact .inl ⟨_, _, rfl, rfl, q _ H (Same.refl _) (.bl _)⟩
  · cases e
    rw [ra.strI, rb.strI]
    exact .inr ⟨_, _, rfl, rfl, q _ H (Same.refl _) (.bl _)⟩
theorem or_lt : OpR X (compareOp .Lt) (rOrd (fun i j => decide (i < j)) fun a b => decide (a < b)) := op_lt.or op_lt_str
theorem or_le : OpR X (compareOp .LtE) (rOrd (fun i j => decide (i ≤ j)) fun a b => !decide (b < a)) := op_le.or op_le_str
theorem or_gt : OpR X (compareOp .Gt) (rOrd (fun i j => decide (j < i)) fun a b => decide (b < a)) := op_gt.or op_gt_str
theorem or_ge : OpR X (compareOp .GtE) (rOrd (fun i j => decide (j ≤ i)) fun a b => !decide (a < b)) := op_ge.or op_ge_str
theorem sr_lt : SemR X (rOrd (fun i j => decide (i < j)) fun a b => decide (a < b)) dLt := sr_ord
theorem sr_le : SemR X (rOrd (fun i j => decide (i ≤ j)) fun a b => !decide (b < a)) dLe := sr_ord
theorem sr_gt : SemR X (rOrd (fun i j => decide (j < i)) fun a b => decide (b < a)) dGt := sr_ord
theorem sr_ge : SemR X (rOrd (fun i j => decide (j ≤ i)) fun a b => !decide (a < b)) dGe := sr_ord
/-- a text in a text -/
def strIn (i j : Str) : Bool := !(Builtin.Str.occurrences j i 0 j.length 1).isEmpty
def dInS : D → D → Option D
  | .str i, .str j => some (.bool (strIn i j))
  | _, _ => none
def dNotInS : D → D → Option D
  | .str i, .str j => some (.bool (!strIn i j))
  | _, _ => none
theorem sr_inS : SemR X (fun x y H Q => ∃ i j, x = .str i ∧ y = .str j ∧ Q (.bl (!(Builtin.Str.occurrences j i 0 j.length 1).isEmpty)) H) dInS := fun x y a b d H W Q ra rb tr e q => by
  cases a <;> cases b <;> first | (cases e; done) | skip
  cases e
  rw [ra.strI, rb.strI]
  exact ⟨_, _, rfl, rfl, q _ H (Same.refl _) (.bl _)⟩
theorem sr_notInS : SemR X (fun x y H Q => ∃ i j, x = .str i ∧ y = .str j ∧ Q (.bl (!(!(Builtin.Str.occurrences j i 0 j.length 1).isEmpty))) H) dNotInS := fun x y a b d H W Q ra rb tr e q => by
  cases a <;> cases b <;> first | (cases e; done) | skip
  cases e
  rw [ra.strI, rb.strI]
  exact ⟨_, _, rfl, rfl, q _ H (Same.refl _) (.bl _)⟩
def isN : D → Bool
  | .none => true
  | _ => false
def dIsN : D → D → Option D
  | a, .none => some (.bool (isN a))
  | _, _ => none
def dNotN : D → D → Option D
  | a, .none => some (.bool (!isN a))
  | _, _ => none
theorem non_iff {x : V} {a : D} {H : Hp} {W : Gh} (ra : RepB X.K (msk H W) H x a) : decide (x = .non) = isN a := by
  rcases ra with h | ⟨a, vs, ds, rfl, rfl, h, r⟩
  · cases h <;> simp [isN]
  · simp [isN]
theorem sr_isN : SemR X (fun x y H Q => y = .non ∧ Q (.bl (decide (x = .non))) H) dIsN := fun x y a b d H W Q ra rb tr e q => by
  cases b <;> first | (cases e; done) | skip
  cases e
  refine ⟨rb.nonI, ?_⟩
  rw [non_iff ra]
  exact q _ H (Same.refl _) (.bl _)
theorem sr_notN : SemR X (fun x y H Q => y = .non ∧ Q (.bl (!decide (x = .non))) H) dNotN := fun x y a b d H W Q ra rb tr e q => by
  cases b <;> first | (cases e; done) | skip
  cases e
  refine ⟨rb.nonI, ?_⟩
  rw [non_iff ra]
  exact q _ H (Same.refl _) (.bl _)

/-! subscripts -/
def dIx : D → D → Option D
  | .str z, .int i => if z.length ≤ sizeLine then (atI z.cps.toList i).map fun c => .str ⟨#[c]⟩ else none
  | .list ds, .int i => atI ds i
  | .tuple ds, .int i => atI ds i
  | _, _ => none
theorem RepAll.atI {K : PySem.W.Frag} {H : Hp} {vs : List V} {ds : List D} {i : Int} {d : D} (r : RepAll K H vs ds) (h : L2.atI ds i = some d) : ∃ v, L2.atI vs i = some v ∧ Rep K H v d := by
  unfold L2.atI at h ⊢
  obtain ⟨j, e1, e2⟩ := bind_some h
  obtain ⟨v, ev, rv⟩ := r.get e2
  exact ⟨v, by rw [r.len, e1]; exact ev, rv⟩
theorem sr_ix : SemR X (rIx X.K) dIx := fun x y a b d H W Q ra rb tr e q => by
  cases a <;> cases b <;> first | (cases e; done) | skip
  · have e : (if _ then _ else none) = some d := e
    split at e
    · rename_i hz
      obtain ⟨c, e1, rfl⟩ := Option.map_eq_some_iff.mp e
      rw [ra.strI, rb.intI]
      exact .inr (.inr ⟨_, _, c, rfl, rfl, hz, e1, q _ H (Same.refl _) (.str _)⟩)
    · cases e
  · obtain ⟨p, vs, rfl, h1, r⟩ := ra.lstI
    obtain ⟨v, e1, rv⟩ := r.atI e
    rw [rb.intI]
    exact .inl ⟨p, vs, _, v, rfl, rfl, .inl h1, e1, q _ H (Same.refl _) rv⟩
  · obtain ⟨p, vs, rfl, h1, r⟩ := ra.tupI
    obtain ⟨v, e1, rv⟩ := r.atI e
    rw [rb.intI]
    exact .inr (.inl ⟨p, vs, _, v, rfl, rfl, h1, e1, q _ H (Same.refl _) rv⟩)
theorem ce_ix {W : WX} {ms : Ms} {a b : Expr} {f g : Rho → R Opd} {pos : Pos} (ha : CO X W ms a f) (hb : CO X W ms b g) (hs : PlainIx b := by exact fun _ _ => rfl) : CE X W ms (.Subscript a b pos) (eBin dIx f g) :=
  (pe_ix ix_seq ha hb hs).weak fun _ _ _ h => bin_read sr_ix h

/-! calls -/
def cLen : List D → Option D
  | [.str z] => if z.length ≤ sizeLine then some (.int z.length) else none
  | [.list ds] => some (.int ds.length)
  | [.tuple ds] => some (.int ds.length)
  | _ => none
def rLenD (K : PySem.W.Frag) : List V → Hp → VK → Prop := fun xs H Q => (∃ z, xs = [.str z] ∧ z.length ≤ sizeLine ∧ Q (.int z.length) H) ∨ ∃ p ys, xs = [.ref p] ∧ (SqL K H p ys ∨ SqT K H p ys) ∧ Q (.int ys.length) H
theorem cr_len : CallR X (.builtin "len") (rLenD X.K) := call_len_str.or call_len_seq
theorem sc_len : SemC X (rLenD X.K) cLen := fun xs ds d H W Q rs tr e q => by
  cases rs with
  | nil => cases e
  | cons a b =>
    rename_i v vs x ds
    cases b with
    | cons _ _ => cases x <;> cases e
    | nil =>
      cases x <;> first | (cases e; done) | skip
      · obtain ⟨hz, rfl⟩ := ite_some e
        rw [a.strI]
        exact .inl ⟨_, rfl, hz, q _ H (Same.refl _) (.int _)⟩
      · cases e
        obtain ⟨p, ys, rfl, h1, r⟩ := a.lstI
        rw [← r.len] at q
        exact .inr ⟨p, ys, rfl, .inl (.inl h1), q _ H (Same.refl _) (.int _)⟩
      · cases e
        obtain ⟨p, ys, rfl, h1, r⟩ := a.tupI
        rw [← r.len] at q
        exact .inr ⟨p, ys, rfl, .inr h1, q _ H (Same.refl _) (.int _)⟩
def cInt : List D → Option D
  | [.int i] => some (.int i)
  | [.bool b] => some (.int (if b then 1 else 0))
  | [.str a] => match PySem.intText? a with
    | some n => if a.length ≤ 640 then some (.int n) else none
    | none => none
  | _ => none
def rIntD : List V → Hp → VK → Prop := fun xs H Q => ((∃ i, xs = [.int i] ∧ Q (.int i) H) ∨ ∃ k, xs = [.bl k] ∧ Q (.int (if k then 1 else 0)) H) ∨ ∃ a n, xs = [.str a] ∧ PySem.intText? a = some n ∧ a.length ≤ 640 ∧ Q (.int n) H
theorem cr_int : CallR X (.type "int") rIntD := call_int1.or call_int_str
theorem sc_int : SemC X rIntD cInt := fun xs ds d H W Q rs tr e q => by
  cases rs with
  | nil => cases e
  | cons a b =>
    rename_i v vs x ds
    cases b with
    | cons _ _ => cases x <;> cases e
    | nil =>
      cases x <;> first | (cases e; done) | skip
      · cases e
        rw [a.blI]
        exact .inl (.inr ⟨_, rfl, q _ H (Same.refl _) (.int _)⟩)
      · cases e
        rw [a.intI]
        exact .inl (.inl ⟨_, rfl, q _ H (Same.refl _) (.int _)⟩)
      · rename_i z
        have e : (match PySem.intText? z with
          | some n => if z.length ≤ 640 then some (PyData.int n) else none
          | none => none) = some d := e
        cases en : PySem.intText? z with
        | none => rw [en] at e; cases e
        | some n =>
          rw [en] at e
          obtain ⟨hz, rfl⟩ := ite_some e
          rw [a.strI]
          exact .inr ⟨_, n, rfl, en, hz, q _ H (Same.refl _) (.int _)⟩
def cOrd : List D → Option D
  | [.str z] => if z.length = 1 then some (.int (z.cps.getD 0 0 : Nat)) else none
  | _ => none
theorem sc_ord : SemC X (fun xs H Q => ∃ x, xs = [.str x] ∧ x.length = 1 ∧ Q (.int (x.cps.getD 0 0 : Nat)) H) cOrd := fun xs ds d H W Q rs tr e q => by
  cases rs with
  | nil => cases e
  | cons a b =>
    rename_i v vs x ds
    cases b with
    | cons _ _ => cases x <;> cases e
    | nil =>
      cases x <;> first | (cases e; done) | skip
      obtain ⟨hz, rfl⟩ := ite_some e
      rw [a.strI]
      exact ⟨_, rfl, hz, q _ H (Same.refl _) (.int _)⟩
def cStr : List D → Option D
  | [.int i] => if i.natAbs.log2 < 1920 then some (.str (toString i)) else none
  | _ => none
theorem sc_str : SemC X (fun xs H Q => ∃ i, xs = [.int i] ∧ i.natAbs.log2 < 1920 ∧ Q (.str (toString i)) H) cStr := fun xs ds d H W Q rs tr e q => by
  cases rs with
  | nil => cases e
  | cons a b =>
    rename_i v vs x ds
    cases b with
    | cons _ _ => cases x <;> cases e
    | nil =>
      cases x <;> first | (cases e; done) | skip
      obtain ⟨hz, rfl⟩ := ite_some e
      rw [a.intI]
      exact ⟨_, rfl, hz, q _ H (Same.refl _) (.str _)⟩
/-- a list of truth values -/
def bools : List D → Option (List Bool)
  | [] => some []
  | .bool b :: ds => (bools ds).map (b :: ·)
  | _ => none
theorem bools_eq : ∀ {ds : List D} {bs : List Bool}, bools ds = some bs → ds = bs.map .bool
  | [], bs, h => by cases h; rfl
  | .bool b :: ds, bs, h => by
    obtain ⟨cs, e, rfl⟩ := Option.map_eq_some_iff.mp h
    rw [bools_eq e]
    rfl
  | .none :: _, _, h => by cases h
  | .int _ :: _, _, h => by cases h
  | .str _ :: _, _, h => by cases h
  | .list _ :: _, _, h => by cases h
  | .tuple _ :: _, _, h => by cases h
  | .dict _ :: _, _, h => by cases h
def cAll : List D → Option D
  | [.list ds] => (bools ds).map fun bs => .bool (bs.all id)
  | _ => none
def cAny : List D → Option D
  | [.list ds] => (bools ds).map fun bs => .bool (bs.any id)
  | _ => none
theorem sc_all : SemC X (rAll X.K) cAll := fun xs ds d H W Q rs tr e q => by
  cases rs with
  | nil => cases e
  | cons a b =>
    rename_i v vs x ds
    cases b with
    | cons _ _ => cases x <;> cases e
    | nil =>
      cases x <;> first | (cases e; done) | skip
      obtain ⟨bs, eb, rfl⟩ := Option.map_eq_some_iff.mp e
      have := bools_eq eb
      subst this
      obtain ⟨p, ys, rfl, h1, r⟩ := a.lstI
      rw [r.bls] at h1
      exact ⟨p, bs, rfl, .inl h1, q _ H (Same.refl _) (.bl _)⟩
theorem sc_any : SemC X (rAny X.K) cAny := fun xs ds d H W Q rs tr e q => by
  cases rs with
  | nil => cases e
  | cons a b =>
    rename_i v vs x ds
    cases b with
    | cons _ _ => cases x <;> cases e
    | nil =>
      cases x <;> first | (cases e; done) | skip
      obtain ⟨bs, eb, rfl⟩ := Option.map_eq_some_iff.mp e
      have := bools_eq eb
      subst this
      obtain ⟨p, ys, rfl, h1, r⟩ := a.lstI
      rw [r.bls] at h1
      exact ⟨p, bs, rfl, .inl h1, q _ H (Same.refl _) (.bl _)⟩

/-! methods -/
def texts : List D → Option (List Str)
  | [] => some []
  | .str b :: ds => (texts ds).map (b :: ·)
  | _ => none
theorem texts_eq : ∀ {ds : List D} {bs : List Str}, texts ds = some bs → ds = bs.map .str
  | [], bs, h => by cases h; rfl
  | .str b :: ds, bs, h => by
    obtain ⟨cs, e, rfl⟩ := Option.map_eq_some_iff.mp h
    rw [texts_eq e]
    rfl
  | .none :: _, _, h => by cases h
  | .int _ :: _, _, h => by cases h
  | .bool _ :: _, _, h => by cases h
  | .list _ :: _, _, h => by cases h
  | .tuple _ :: _, _, h => by cases h
  | .dict _ :: _, _, h => by cases h
def mAppend : List D → List D → Option (List D × D) := fun cs ds => match ds with
  | [d] => if cs.length < sizeLine then some (cs ++ [d], .none) else none
  | _ => none
def mExtend : List D → List D → Option (List D × D) := fun cs ds => match ds with
  | [.list es] => if cs.length + es.length ≤ sizeLine then some (cs ++ es, .none) else none
  | _ => none
def mPop : List D → List D → Option (List D × D) := fun cs ds => match ds with
  | [] => (cs[cs.length - 1]?).map fun d => (cs.dropLast, d)
  | _ => none
def mReverse : List D → List D → Option (List D × D) := fun cs ds => match ds with
  | [] => some (cs.reverse, .none)
  | _ => none
theorem RepAll.dropLast {K : PySem.W.Frag} {H : Hp} {vs : List V} {ds : List D} (h : RepAll K H vs ds) : RepAll K H vs.dropLast ds.dropLast := by
  rw [List.dropLast_eq_take, List.dropLast_eq_take, h.len]
  exact h.take _
theorem sx_append : SemX X rAppend mAppend := fun a vs cs xs ds es d H W Q ha hW rc rx e q => by
  cases rx with
  | nil => cases e
  | cons r1 r2 =>
    cases r2 with
    | cons _ _ => cases e
    | nil =>
      have e : (if cs.length < sizeLine then some (cs ++ [_], PyData.none) else none) = some (es, d) := e
      obtain ⟨hz, e⟩ := ite_some e
      cases e
      rw [← rc.len] at hz
      exact ⟨a, vs, _, rfl, rfl, ha, hz, q _ _ (rc.append (.cons r1 .nil)) .non⟩
def rExtendD : V → List V → Hp → VK → Prop := fun x vs H Q => ∃ l b xs zs, x = .ref l ∧ vs = [.ref b] ∧ H l = some (.lst xs) ∧ Rd H b (.lst zs) ∧ xs.length + zs.length ≤ sizeLine ∧ Q .non (upd H l (.lst (xs ++ zs)))
theorem mt_extendD : MtR X "list.extend" rExtendD := by
  intro pins s σ H x vs v us Q I rx rv h
  obtain ⟨l, b, xs, zs, rfl, rfl, hH, hB, hz, q⟩ := h
  cases rx
  obtain ⟨u, rfl, ru⟩ := rv.one
  cases ru
  obtain ⟨z, its, n, r, hl, e⟩ := I.lstM hH
  obtain ⟨z2, its2, n2, r2, e2⟩ := hB.ok I.hok
  have hl2 := r2.length
  have hsz : its.toArray.size + its2.toArray.size ≤ sizeLine := by rw [List.size_toArray, List.size_toArray]; omega
  have hlong : ¬ (!its.toArray.isEmpty && Builtin.List.listTooLong (its.toArray.size + its2.toArray.size)) = true := by
    rw [notLongL hsz, Bool.and_false]
    exact Bool.false_ne_true
  refine call_meets F.slot_list_extend ⟨_, e, rfl⟩ F.entry_list_extend (F.args_list_extend_2 _ _)
    (AutoSeq1.list_extend_list_list_0 l its.toArray n b its2.toArray n2 hlong (by rw [List.size_toArray]; omega) (by omega)) ⟨e, e2, ?_⟩
  refine ⟨.non, _, I.lset (its' := its ++ its2) hH e (by simp) (r.append r2) ?_, rfl, q⟩
  rw [List.length_append]
  omega
theorem sx_extend : SemX X rExtendD mExtend := fun a vs cs xs ds es d H W Q ha hW rc rx e q => by
  cases rx with
  | nil => cases e
  | cons r1 r2 =>
    rename_i x xs' y ds'
    cases r2 with
    | cons _ _ => cases y <;> cases e
    | nil =>
      cases y <;> first | (cases e; done) | skip
      rename_i fs
      have e : (if cs.length + fs.length ≤ sizeLine then some (cs ++ fs, PyData.none) else none) = some (es, d) := e
      obtain ⟨hz, e⟩ := ite_some e
      cases e
      obtain ⟨b, zs, rfl, hb, rz⟩ := r1.lstI
      rw [← rc.len, ← rz.len] at hz
      exact ⟨a, b, vs, zs, rfl, rfl, ha, DL.Same.rd msk_sub hb, hz, q _ _ (rc.append rz) .non⟩
theorem sx_pop : SemX X rPop mPop := fun a vs cs xs ds es d H W Q ha hW rc rx e q => by
  cases rx with
  | cons _ _ => cases e
  | nil =>
    obtain ⟨y, ey, e⟩ := Option.map_eq_some_iff.mp e
    cases e
    obtain ⟨v, ev, rv⟩ := rc.get ey
    rw [← rc.len] at ev
    exact ⟨a, vs, v, rfl, rfl, ha, ev, q _ _ rc.dropLast rv⟩
theorem sx_reverse : SemX X rReverse mReverse := fun a vs cs xs ds es d H W Q ha hW rc rx e q => by
  cases rx with
  | cons _ _ => cases e
  | nil =>
    cases e
    exact ⟨a, vs, rfl, rfl, ha, q _ _ rc.reverse .non⟩
def mJoin : D → List D → Option D := fun c ds => match c, ds with
  | .str a, [.list es] => (texts es).bind fun ys => if (ys.map (·.length)).sum + ys.length * a.length ≤ 16777216 then some (.str (Txt.join a ys)) else none
  | .str a, [.tuple es] => (texts es).bind fun ys => if (ys.map (·.length)).sum + ys.length * a.length ≤ 16777216 then some (.str (Txt.join a ys)) else none
  | _, _ => none
theorem sm_join : SemM X (fun x xs H Q => ∃ a p, ∃ ys : List Str, x = .str a ∧ xs = [.ref p] ∧ (SqL X.K H p (ys.map V.str) ∨ SqT X.K H p (ys.map V.str)) ∧ (ys.map (·.length)).sum + ys.length * a.length ≤ 16777216 ∧ Q (.str (Txt.join a ys)) H) mJoin := fun x c xs ds d H W Q rc rx tr e q => by
  cases c <;> first | (cases e; done) | skip
  rename_i a
  cases rx with
  | nil => cases e
  | cons r1 r2 =>
    rename_i v vs y ds'
    cases r2 with
    | cons _ _ => cases y <;> cases e
    | nil =>
      cases y <;> first | (cases e; done) | skip
      · rename_i es
        have e : ((texts es).bind fun ys => if (ys.map (·.length)).sum + ys.length * a.length ≤ 16777216 then some (PyData.str (Txt.join a ys)) else none) = some d := e
        obtain ⟨ys, ey, e⟩ := bind_some e
        obtain ⟨hz, rfl⟩ := ite_some e
        have := texts_eq ey
        subst this
        obtain ⟨p, zs, rfl, h1, r⟩ := r1.lstI
        rw [r.strs] at h1
        rw [rc.strI]
        exact ⟨a, p, ys, rfl, rfl, .inl (.inl h1), hz, q _ H (Same.refl _) (.str _)⟩
      · rename_i es
        have e : ((texts es).bind fun ys => if (ys.map (·.length)).sum + ys.length * a.length ≤ 16777216 then some (PyData.str (Txt.join a ys)) else none) = some d := e
        obtain ⟨ys, ey, e⟩ := bind_some e
        obtain ⟨hz, rfl⟩ := ite_some e
        have := texts_eq ey
        subst this
        obtain ⟨p, zs, rfl, h1, r⟩ := r1.tupI
        rw [r.strs] at h1
        rw [rc.strI]
        exact ⟨a, p, ys, rfl, rfl, .inr h1, hz, q _ H (Same.refl _) (.str _)⟩
def mSplit : D → List D → Option (List D) := fun c ds => match c, ds with
  | .str a, [.str b] => if (b.length == 0) = false ∧ a.length + 2 ≤ sizeLine then some ((Txt.split a b).map .str) else none
  | _, _ => none
theorem repStrs {K : PySem.W.Frag} {H : Hp} : ∀ (ns : List Str), RepAll K H (ns.map V.str) (ns.map PyData.str)
  | [] => .nil
  | n :: ns => .cons (.str n) (repStrs ns)
theorem sm_split : SemML X (fun x xs H Q => ∃ a b, x = .str a ∧ xs = [.str b] ∧ (b.length == 0) = false ∧ a.length + 2 ≤ sizeLine ∧ rNewStrs (Txt.split a b) H Q) mSplit := fun x c xs ds es H W Q rc rx tr e q => by
  cases c <;> first | (cases e; done) | skip
  rename_i a
  cases rx with
  | nil => cases e
  | cons r1 r2 =>
    rename_i v vs y ds'
    cases r2 with
    | cons _ _ => cases y <;> cases e
    | nil =>
      cases y <;> first | (cases e; done) | skip
      rename_i b
      have e : (if (b.length == 0) = false ∧ a.length + 2 ≤ sizeLine then some ((Txt.split a b).map PyData.str) else none) = some es := e
      obtain ⟨⟨h1, h2⟩, rfl⟩ := ite_some e
      rw [rc.strI, r1.strI]
      exact ⟨a, b, rfl, rfl, h1, h2, fun p hp => q _ H p (Same.refl _) hp (repStrs _)⟩

/-! repr -/
def cRepr : List D → Option D
  | [d] => if (d.showable && !d.hasDict && decide (d.depth ≤ 60) && decide (d.shown.length ≤ sizeLine)) = true then some (.str d.shown) else none
  | _ => none
theorem cr_repr (hgd : X.A.guards = some []) (hu : X.A.units + 64 < cLine) : CallR X (.builtin "repr") (fun xs H Q => ∃ x d, xs = [x] ∧ Dp X.K H x d ∧ (d.showable && !d.hasDict && decide (d.depth ≤ 60) && decide (d.shown.length ≤ sizeLine)) = true ∧ Q (.str d.shown) H) := by
  intro pins s σ H xs us Q I r h
  obtain ⟨x, d, rfl, hd, hz, q⟩ := h
  obtain ⟨u, rfl, ru⟩ := vals1 r
  simp only [Bool.and_eq_true, Bool.not_eq_true', decide_eq_true_eq] at hz
  obtain ⟨⟨⟨h1, h2⟩, h3⟩, h4⟩ := hz
  have fin : ∀ (t : Tok) (k : Nat), EP X pins σ Q (.str d.shown t) { s with toks := k } := fun t k => ⟨.str d.shown, H, I.tok k, ⟨t, rfl⟩, q⟩
  cases hd with
  | non => cases ru; exact PySem.P.repr_of_none (fin _ _)
  | bl b => cases ru; exact PySem.P.repr_of_bool (fin _ _)
  | int i =>
    obtain ⟨t, rfl⟩ := ru
    have h1 : decide (i.natAbs.log2 < 1920) = true := h1
    exact PySem.P.repr_of_int (of_decide_eq_true h1) (fin _ _)
  | str z =>
    obtain ⟨t, rfl⟩ := ru
    exact PySem.P.repr_of_str (fin _ _) h4
  | lst hs ha =>
    have hd : Dp X.K H _ _ := .lst hs ha
    cases ru
    obtain ⟨as, rd⟩ := Dp.reads I _ _ _ hd rfl
    exact repr_of_reads' rd h1 (PyData.noDict_hsm h2) hgd (by omega) (fun _ _ e => e) (fun h' u tk hk => ⟨.str _, H, I.kept (t' := tk) hk, ⟨u, rfl⟩, q⟩) h4
  | tup hs ha =>
    have hd : Dp X.K H _ _ := .tup hs ha
    cases ru
    obtain ⟨as, rd⟩ := Dp.reads I _ _ _ hd rfl
    exact repr_of_reads' rd h1 (PyData.noDict_hsm h2) hgd (by omega) (fun _ _ e => e) (fun h' u tk hk => ⟨.str _, H, I.kept (t' := tk) hk, ⟨u, rfl⟩, q⟩) h4
theorem sc_repr : SemC X (fun xs H Q => ∃ x d, xs = [x] ∧ Dp X.K H x d ∧ (d.showable && !d.hasDict && decide (d.depth ≤ 60) && decide (d.shown.length ≤ sizeLine)) = true ∧ Q (.str d.shown) H) cRepr := fun xs ds d H W Q rs tr e q => by
  cases rs with
  | nil => cases e
  | cons a b =>
    cases b with
    | cons _ _ => cases e
    | nil =>
      obtain ⟨hz, rfl⟩ := ite_some e
      exact ⟨_, _, rfl, a.rep.dp, hz, q _ H (Same.refl _) (.str _)⟩
end
end DL
end

section
set_option maxHeartbeats 1000000
namespace DL
open PySem PySem.Spec PyProof.Rows L2

/-! ## the end of a law -/
def isLst (o : Obj) : Bool := match o.cls with
  | .type n => n == "list"
  | _ => false
/-- no list stands in the written part -/
def nolst (K : PySem.W.Frag) : Bool := K.all fun p => !isLst p.2
theorem nolst_at {K : PySem.W.Frag} {h : Heap} {a : Addr} {vs : List Value} {m : Nat} (X : K.In h) (n : nolst K = true) (ha : h.get? a = some { cls := .type "list", data := .seq vs.toArray m }) : K.lookup a = none := by
  cases e : K.lookup a with
  | none => rfl
  | some o =>
    have h1 := X a o e
    rw [ha] at h1
    have e2 : o = { cls := .type "list", data := .seq vs.toArray m } := (Option.some.inj h1).symm
    have mem : ∀ {l : List (Addr × Obj)}, l.lookup a = some o → (a, o) ∈ l := fun {l} => by
      induction l with
      | nil => intro z; cases z
      | cons p r ih =>
        intro z
        obtain ⟨b, u⟩ := p
        have z2 : (match a == b with | true => some u | false => r.lookup a) = some o := z
        cases q : (a == b) with
        | true =>
          rw [q] at z2
          have : u = o := Option.some.inj z2
          rw [beq_iff_eq.mp q, this]
          exact List.mem_cons_self
        | false =>
          rw [q] at z2
          exact List.mem_cons_of_mem _ (ih z2)
    have h2 := List.all_eq_true.mp n (a, o) (mem e)
    rw [e2] at h2
    simp [isLst] at h2
theorem law_callG {P : Program} {w : World} {K : PySem.W.Frag} {mg mb : Str → Option Value} {k : Nat} {fa a : Addr} {fd : FuncData} {x : Str} {pm : Ms} {F : FS} {s₁ : Shared} {vs : List Value} {ns : List Int}
    (KX : K.In s₁.heap) (hns : s₁.heap.Ns mainGlobals mg) (hb : s₁.heap.Ns builtinsNs mb) (hbb : ∀ x : Str, x ≠ "__name__" → mb x = bootBuiltins x) (hlim : s₁.heap.NoLimit) (hg : s₁.gens = #[])
    (ha : s₁.heap.get? a = some { cls := .type "list", data := .seq vs.toArray }) (hi : IntsAre vs ns) (hl : ns.length ≤ sizeLine) (hr : Room k callerA) (nl : nolst K = true)
    (FN : ∀ base : Heap, K.In base → base.Ns mainGlobals mg → FnG P w K mg base k fa fd [x] (spF w K mg pm .pur 1 F)) (hbind : ∀ (s : Shared) (u : Value), BindsTo s fd ⟨[u], []⟩ [(x, u)]) (hpm : (pm 0).sh = .pur)
    (hF : ∃ ro, F [.list (ns.map .int)] = .ok (.bool true) ro) :
    codeAny (model P w) callerA (.call (.ref fa) ⟨[.ref a], []⟩) (fun r s' => r = .ok (.ret (.bool true)) ∧ OldK s₁.heap s'.heap ∧ s'.os = s₁.os ∧ AllBare s'.gens) s₁ := by
  have rv := vals_ints hi
  have lenV := hi.length
  have hk : K.lookup a = none := nolst_at KX nl ha
  obtain ⟨H, hHdef⟩ : ∃ H : Hp, H = fun b => if b = a then some (.frz { cls := .type "list", data := .seq vs.toArray } (.lst (ns.map V.int))) else none := ⟨_, rfl⟩
  have hHa : H a = some (.frz { cls := .type "list", data := .seq vs.toArray } (.lst (ns.map V.int))) := by rw [hHdef]; exact if_pos rfl
  have hHn : ∀ b, b ≠ a → H b = none := fun b hb => by rw [hHdef]; exact if_neg hb
  have hok : HOk P w H s₁.heap := fun b u z => by
    by_cases hb : b = a
    · subst hb
      rw [hHa] at z
      cases z
      exact ⟨ha, by rw [List.length_map]; exact hl, vs, _, rv, ha⟩
    · rw [hHn b hb] at z; cases z
  have hA : ∀ b, H b ≠ none → b = a := fun b z => by
    by_cases hb : b = a
    · exact hb
    · exact absurd (hHn b hb) z
  have base_of : ∀ {b : Addr} {o : Obj}, s₁.heap.get? b = some o → H b = none → (hidT s₁.heap H).get? b = some o := fun e n => hidT_get e n
  have noA : ∀ {b : Addr} {o : Obj} {es : Array DictEntry} {ep : Nat}, s₁.heap.get? b = some o → o.data = .dict es ep → H b = none := fun {b o es ep} e d => by
    cases q : H b with
    | none => rfl
    | some u =>
      have e' : b = a := hA b (by rw [q]; simp)
      subst e'
      rw [ha] at e; cases e
      have d' : Data.seq vs.toArray _ = Data.dict es ep := d
      cases d'
  have nsK : ∀ {b : Addr} {m : Str → Option Value}, s₁.heap.Ns b m → (hidT s₁.heap H).Ns b m := fun {b m} ⟨o, es, ep, e, d, r⟩ => ⟨o, es, ep, base_of e (noA e d), d, r⟩
  have hKb : K.In (hidT s₁.heap H) := fun b o e => base_of (KX b o e) (by
    cases q : H b with
    | none => rfl
    | some u =>
      have e' : b = a := hA b (by rw [q]; simp)
      subst e'
      rw [hk] at e; cases e)
  have hM : Mod K mg (hidT s₁.heap H) := ⟨hKb, nsK hns, ⟨mb, nsK hb, hbb⟩, let ⟨mc, h1, h2⟩ := hlim; ⟨mc, nsK h1, h2⟩⟩
  have e0 : Env0 P w K mg (hidT s₁.heap H) callerA [] s₁ H := ⟨rfl, hM, fun b o e => of_hidT e, Nat.le_of_eq (hidT_size _ _), trivial, fun b hb => absurd (show b ∈ ([] : List Addr) from hb) (by simp), hok, .of_eq hg⟩
  have hsp : spF w K mg pm .pur 1 F [.ref a] H (fun v _ => v = .bl true) fun _ _ _ => False := by
    obtain ⟨ro, eF⟩ := hF
    have nOw : ∀ b, ¬ Ow (fun _ => []) (fun _ => False) b := fun b z => by
      rcases z with z | ⟨i, z⟩
      · exact z
      · cases z
    refine ⟨[.list (ns.map .int)], fun _ => [], fun _ => False, rfl, rfl, ⟨rfl, fun i d e => ?_, fun _ _ => rfl, fun _ z => z.elim, fun _ _ _ z => (by cases z), fun _ _ z => (by cases z)⟩, ?_⟩
    · cases i with
      | zero =>
        cases e
        refine ⟨_, rfl, ?_⟩
        rw [hpm]
        exact .pur (.lst (.inr ⟨_, msk_mk (nOw a) hHa⟩) (repInts ns))
      | succ i => simp at e
    · rw [eF]
      intro v H' O' A _ _ _ rp
      exact rp.purI.2.blI
  refine codeAny_mono ((FN _ hKb (nsK hns)).run callerA [] s₁ H ⟨[.ref a], []⟩ [.ref a] [.ref a] _ _ hr rfl e0 (hbind s₁ (.ref a)) (.cons rfl .nil) hsp) fun r s' h => ?_
  cases r with
  | error e =>
    obtain ⟨_, _, _, _, _, _, _, _, _, _, _, _, z⟩ := h
    exact z.elim
  | ok fl =>
    cases fl with
    | next => exact False.elim h
    | brk => exact False.elim h
    | cont => exact False.elim h
    | ret u =>
      obtain ⟨v, H', os, bare, un, hok', r', q⟩ := h
      have q' : v = .bl true := q
      subst q'
      obtain rfl : u = Value.bool true := r'
      refine ⟨rfl, OldK.of_keep fun b o e => ?_, os, bare⟩
      by_cases hb : b = a
      · subst hb
        have z2 := un.frzs b _ _ hHa
        obtain ⟨e2, _⟩ := hok' b _ z2
        rw [ha] at e
        cases e
        exact e2
      · exact un.keep b o e (hHn b hb) (by intro z; exact absurd (show b ∈ ([] : List Addr) from z) (by simp)) (by simp)
theorem walk_ofG {l : PySem.W.OpenLaw} {n k : Nat} {q : Program} {loose : List Str} {XP : (Str → Option Value) → Heap → Prop} {YP : World → Heap → Prop} {d : DefRec} {x : Str} {pm : Ms} {F : FS}
    (hn : l.most = some n) (hn2 : n ≤ sizeLine) (hdf : d.params.defaults = []) (hr : Room k callerA) (hpm : (pm 0).sh = .pur)
    (FF : ∀ (w : World) (mg : Str → Option Value) (fa : Addr) (h : Heap), YP w h → h.Ns mainGlobals mg → mg d.name = some (.ref fa) →
      ∃ (K : PySem.W.Frag) (fd : FuncData), K.In h ∧ nolst K = true ∧ (∀ (s : Shared) (u : Value), BindsTo s fd ⟨[u], []⟩ [(x, u)]) ∧
        ∀ base : Heap, K.In base → base.Ns mainGlobals mg → FnG l.prog w K mg base k fa fd [x] (spF w K mg pm .pur 1 F))
    (hF : ∀ ns : List Int, ns.length ≤ n → ∃ ro, F [.list (ns.map .int)] = .ok (.bool true) ro) :
    PySem.W.WalkO q loose XP YP l.row.toRowW d [] (fun f vs => PySem.call f vs) := by
  refine Att.attach_call hn hdf fun w s₀ s₁ mg mb fa o pm cd doc a vs ns G Y ho hd hcd hmg hobj hints hlen hg => ?_
  obtain ⟨K, fd, KX, nl, hb, hFN⟩ := FF w mg fa _ Y G.T.g hmg
  exact law_callG KX G.T.g G.T.b G.T.builtins G.T.nolimit hg hobj hints (Nat.le_trans hlen hn2) hr nl hFN hb hpm (hF ns hlen)

/-! ## the head's facts -/
abbrev AlX : Type := He.AlD × Bool
def obsX (fa : List He.Fa) (fn : List He.DefD) (xs : List (PySem.W.Frag → Bool)) (K : PySem.W.Frag) : AlX := (He.obsD fa fn K, xs.all fun x => x K)
def valX (fn : List He.DefD) : AlX := (He.valD fn, true)
structure SaysX (fa : List He.Fa) (fn : List He.DefD) (xs : List (PySem.W.Frag → Bool)) (K : PySem.W.Frag) : Prop where
  d : He.SaysD fa fn K
  x : ∀ x ∈ xs, x K = true
theorem saysX_of {fa : List He.Fa} {fn : List He.DefD} {xs : List (PySem.W.Frag → Bool)} {K : PySem.W.Frag} (h : obsX fa fn xs K = valX fn) : SaysX fa fn xs K :=
  ⟨congrArg (fun z : AlX => z.1) h, fun x hx => List.all_eq_true.mp (congrArg (fun z : AlX => z.2) h) x hx⟩
def obsXG (n : Nat) (fa : List He.Fa) (fn : List He.DefD) (xs : List (PySem.W.Frag → Bool)) (g : Addr → Option Obj) : AlX := obsX fa fn xs (He.frG g (He.asD g n))
def hookX (n : Nat) (fa : List He.Fa) (fn : List He.DefD) (xs : List (PySem.W.Frag → Bool)) : PySem.W.Hook where
  α := AlX
  obs := fun s => obsXG n fa fn xs s.heap.get?
  val := fun _ => valX fn
  says := fun _ h => ∃ K : PySem.W.Frag, K.In h ∧ SaysX fa fn xs K
  of := fun _ _ e => ⟨_, He.frG_in, saysX_of e⟩
  keeps := fun _ _ _ ⟨K, hK, c⟩ k => ⟨K, PySem.W.Frag.In.keeps hK k, c⟩
theorem obsXG_eq {n : Nat} {fa : List He.Fa} {fn : List He.DefD} {xs : List (PySem.W.Frag → Bool)} {g : Addr → Option Obj} {s : Shared} (h : ∀ a, g a = s.heap.get? a) : obsXG n fa fn xs g = (hookX n fa fn xs).obs s := by
  have e : g = s.heap.get? := funext h
  rw [e] <;> rfl
/-- how a def's arguments bind: it has no defaults -/
theorem binds_of {K : PySem.W.Frag} {x qual : Str} {params : Arguments} {body : List Stmt} {scope : Scope} {f : Addr} {fd : FuncData} {ps : List Str} (F : FunD K x qual params body scope [] [] f fd)
    (h : ∀ (kV doc pm : Value) (an : Option Addr) (cdv ct : Value) (us : List Value), us.length = ps.length → bindArgs (PySem.W.fnOf x qual params body scope .none kV doc pm an cdv ct) ⟨us, []⟩ = pure (ps.zip us)) : Binds K fd ps [] := F.bindsN h
end DL
end

section
set_option maxHeartbeats 1000000
namespace DL
open PySem PySem.Spec PyProof.Rows L2
/-- the def x of the module keeps its promise -/
def Ok (P : Program) (w : World) (K : PySem.W.Frag) (mg : Str → Option Value) (base : Heap) (k : Nat) (x : Str) (ps : List Str) (pm : Ms) (rs : Shp) (n : Nat) (F : FS) : Prop :=
  ∃ fd, mg x = some (.ref (He.ga K x)) ∧ PySem.W.keepIn K (.ref (He.ga K x)) = true ∧ Binds K fd ps [] ∧ FnG P w K mg base k (He.ga K x) fd ps (spF w K mg pm rs n F)
/-- where a def of the module stands -/
def At (K : PySem.W.Frag) (mg : Str → Option Value) (x : Str) (st : Stmt) : Prop := mg x = some (.ref (He.ga K x)) ∧ ∃ fd, FunD K x x (defArgs st) (defBody st) (defScope st) [] [] (He.ga K x) fd
theorem ok_of {P : Program} {w : World} {K : PySem.W.Frag} {mg : Str → Option Value} {base : Heap} {k : Nat} {x : Str} {st : Stmt} {N ps : List Str} {pm ms : Ms} {rs : Shp} {n m : Nat} {g : Rho → SR} (a : At K mg x st) (S : FnScope N ps (defScope st))
    (hbind : ∀ (kV doc pm : Value) (an : Option Addr) (cdv ct : Value) (us : List Value), us.length = ps.length → bindArgs (PySem.W.fnOf x x (defArgs st) (defBody st) (defScope st) .none kV doc pm an cdv ct) ⟨us, []⟩ = pure (ps.zip us))
    (hn : ps.length = n) (hm : N.length - n = m) (hms : ∀ i, i < n → ms i = pm i) (hrn : rs = .pur ∨ ∀ (ds : List D) (r : Rho), g (ds.map some ++ List.replicate m none) ≠ .nx r)
    (hb : ∀ (cdv : Value) (A : Around) (outer : List Env) (s : Shared) (H : Hp) (E : XK), Room k (A.deeper (envOfC x (defScope st) s.heap.objs.size (He.ga K x) cdv)) → (A.deeper (envOfC x (defScope st) s.heap.objs.size (He.ga K x) cdv)).guards = some [] →
      Takes (cxOf (L2.CX P w) P w K mg base N x (defScope st) (He.ga K x) cdv A outer s H E) (fun cls d _ H' => E cls d H') → CSs (cxOf (L2.CX P w) P w K mg base N x (defScope st) (He.ga K x) cdv A outer s H E) (fun cls d _ H' => E cls d H') ms rs (defBody st) g) :
    Ok P w K mg base (k + 1) x ps pm rs n (bodyF pm n m g) := by
  obtain ⟨hx, fd, F⟩ := a
  exact ⟨fd, hx, F.kp, binds_of F hbind, fnG_body F S hn hm hms hrn hb⟩
section
variable {X : Cx} {W : WX} {ms pm : Ms} {rs : Shp} {k j n : Nat} {ps : List Str} {F : FS} {x : Str} {p pos : Pos} {e : Expr} {es : List Expr} {as : List Arg} {tg : Expr}
theorem ceo_call (h : Ok X.prog X.w X.K X.mg X.base j x ps pm rs n F) (hr : Room k X.A) (hgd : X.A.guards = some []) (tk : Takes X W) (hj : j ≤ k) (ha : CA X W ms (e :: es) (argsR as)) (ok : okArgs ms pm as = true := by rfl) (hn : as.length = n := by rfl)
    (hg : Gl X x := by rfl) (hdb : (x == ("__debug__" : Str)) = false := by decide) (he : starEach (e :: es) X.env = (false, eval e X.env) :: starEach es X.env := by rfl) (hpl : (backTo pos (starEach es X.env)).any (·.1) = false := by rfl) :
    CEo X W ms rs (.Call (.Name x p) (e :: es) [] pos) (eFn F as) := by
  obtain ⟨fd, h1, h2, h3, h4⟩ := h
  exact ceo_fn h4 (hr.mono hj) hgd tk h1 h2 h3 ha ok hn hg hdb he hpl
theorem ce_call (h : Ok X.prog X.w X.K X.mg X.base j x ps pm rs n F) (hr : Room k X.A) (hgd : X.A.guards = some []) (tk : Takes X W) (hj : j ≤ k) (ha : CA X W ms (e :: es) (argsR as)) (ok : okArgs ms pm as = true := by rfl) (hn : as.length = n := by rfl)
    (hg : Gl X x := by rfl) (hdb : (x == ("__debug__" : Str)) = false := by decide) (he : starEach (e :: es) X.env = (false, eval e X.env) :: starEach es X.env := by rfl) (hpl : (backTo pos (starEach es X.env)).any (·.1) = false := by rfl) (hrs : Shp.ok rs = true := by rfl) :
    CE X W ms (.Call (.Name x p) (e :: es) [] pos) (eFn F as) := ce_own (ceo_call h hr hgd tk hj ha ok hn hg hdb he hpl) hrs
theorem takesW0 {X : Cx} : Takes X W0 := fun _ _ x => by
  obtain ⟨_, _, _, _, _, _, _, _, _, _, _, _, _, _, _, _, z⟩ := x
  exact z.elim
/-- any pure thing that is walked -/
def iAny (f : Rho → R D) : Rho → R (List D) := fun r => (f r).bind fun d r1 => match d with
  | .list ds => .ok ds r1
  | .tuple ds => .ok ds r1
  | .str z => .ok (z.cps.toList.map sgn) r1
  | _ => .bad
theorem ci_any {f : Rho → R D} (h : CE X W ms e f) : CI X W ms tg e (iAny f) :=
  ⟨fun pins s σ H Z I ⟨r, O, G, R, q⟩ => by
    unfold iAny at q
    cases hf : f r with
    | bad => rw [hf] at q; exact False.elim q
    | exc c x r1 => exact (ci_list h).run pins s σ H Z I ⟨r, O, G, R, by unfold iLst; rw [hf] at q ⊢; exact q⟩
    | ok d r1 =>
      rw [hf] at q
      cases d with
      | list ds => exact (ci_list h).run pins s σ H Z I ⟨r, O, G, R, by unfold iLst; rw [hf]; exact q⟩
      | tuple ds => exact (ci_tup h).run pins s σ H Z I ⟨r, O, G, R, by unfold iTup; rw [hf]; exact q⟩
      | str z => exact (ci_str h).run pins s σ H Z I ⟨r, O, G, R, by unfold iStr; rw [hf]; exact q⟩
      | _ => exact False.elim q⟩
/-- - a -/
def eNeg (f : Rho → R D) : Rho → R D := fun r => (f r).bind fun d r1 => match d with
  | .int i => .ok (.int (-i)) r1
  | _ => .bad
theorem ce_neg {f : Rho → R D} (h : CE X W ms e f) : CE X W ms (.UnaryOp .USub e pos) (eNeg f) :=
  (pe_un un_neg h).weak fun σ H Q ⟨r, O, G, R, h⟩ => by
    unfold eNeg at h
    rw [on_bind] at h
    refine tE_step R h fun d r1 v H1 O1 h1 R1 E1 p1 => ?_
    cases d with
    | int i => exact ⟨i, p1.intI, h1 _ H1 O1 R1 E1 (.int _)⟩
    | _ => exact False.elim h1
theorem PIp.or {op : Operator} {t t' : TIp} (h : PIp X op t) (h' : PIp X op t') : PIp X op (fun x y H Q => t x y H Q ∨ t' x y H Q) := by
  intro pins s σ H x y v u Q I r1 r2 q
  rcases q with q | q
  · exact h pins s σ H x y v u Q I r1 r2 q
  · exact h' pins s σ H x y v u Q I r1 r2 q
def tiAdd : TIp := fun x y H Q => ipI (fun i j => i + j) x y H Q ∨ ∃ i j, x = .str i ∧ y = .str j ∧ i.length + j.length ≤ sizeLine ∧ Q (.str (i ++ j)) H
theorem ip_addD : PIp X .Add tiAdd := DL.PIp.or ip_add (fun pins s σ H x y v u Q I r1 r2 q => iop_add_str pins s σ H x y v u Q I r1 r2 q)
theorem si_add : SemI X tiAdd dAdd := fun x y a b d H W Q ra rb tr e q => by
  cases a <;> cases b <;> first | (cases e; done) | skip
  · cases e
    rw [ra.intI, rb.intI]
    exact .inl ⟨_, _, rfl, rfl, q _ H (Same.refl _) (.int _)⟩
  · obtain ⟨hz, rfl⟩ := ite_some e
    rw [ra.strI, rb.strI]
    exact .inr ⟨_, _, rfl, rfl, hz, q _ H (Same.refl _) (.str _)⟩
end
theorem msOf_app {l1 l2 : List Md} {n : Nat} (h : l1.length = n) : ∀ i, i < n → msOf (l1 ++ l2) i = msOf l1 i := fun i hi => by
  unfold msOf
  rw [List.getD_eq_getElem?_getD, List.getD_eq_getElem?_getD, List.getElem?_append_left (by omega)]
section
variable {X : Cx} {W : WX} {ms : Ms} {a b c : Expr} {f g k : Rho → R Opd} {pos : Pos}
/-- a truth value -/
def tBool (f : Rho → R D) : Rho → R Bool := fun r => (f r).bind fun d r1 => match d with
  | .bool b => .ok b r1
  | _ => .bad
theorem ct_bool {e : Expr} {t : TE} {u : Rho → R D} (h : PT X e (tTest t)) (hr : ∀ {σ H Q}, tE X W ms u σ H Q → t σ H Q) : CT X W ms e (tBool u) :=
  h.weak fun σ H Q ⟨r, O, G, R, q⟩ => by
    unfold tBool at q
    rw [on_bind] at q
    refine hr (tE_step R q fun d r1 v H1 O1 h1 R1 E1 p1 => ?_)
    cases d with
    | bool b => exact ⟨b, p1.blI, h1 H1 O1 R1 E1⟩
    | _ => exact False.elim h1
theorem ct_cmp {op : CmpOp} {r : R2} {sem : D → D → Option D} (ho : OpR X (compareOp op) r) (hs : SemR X r sem) (hm : behindInMarks op b = false) (ha : CO X W ms a f) (hb : CO X W ms b g) : CT X W ms (.Compare a [op] [b] pos) (tBool (eBin sem f g)) :=
  ct_bool (pt_cmpR ho ha hb hm) fun h => bin_read hs h
theorem chain_read {r r' : R2} {sem sem' : D → D → Option D} (hs : SemR X r sem) (hs' : SemR X r' sem') {σ : L2.St} {H : Hp} {Q : VK} (h : tE X W ms (eChain sem sem' f g k) σ H Q) : tChain r r' (tO X W ms f) (tO X W ms g) (tO X W ms k) σ H Q := by
  obtain ⟨ρ, O, G, R, h⟩ := h
  unfold eChain at h
  rw [on_bind] at h
  refine tO_step R h fun a1 r1 v1 H1 O1 h1 R1 E1 p1 => ?_
  rw [on_bind] at h1
  refine tO_step R1 (bxm E1 h1) fun a2 r2 v2 H2 O2 h2 R2 E2 p2 => ?_
  cases e : (a1.get r2).bind fun x => (a2.get r2).bind fun y => sem x y with
  | none => rw [e] at h2; exact False.elim h2
  | some d =>
    rw [e] at h2
    obtain ⟨x, ex, e⟩ := bind_some e
    obtain ⟨y, ey, e⟩ := bind_some e
    cases d with
    | bool t =>
      refine hs v1 v2 x y _ H2 (Ow O2 G) _ ((p1.mono E2.sm).get R2 ex) (p2.get R2 ey) R2.trO e fun v H3 sm rp => ?_
      have R3 := R2.same sm
      have E3 : Ext H2 O2 G H3 O2 G := .same sm R2.tr
      refine ⟨t, rp.blI, ?_⟩
      cases t with
      | true =>
        simp only at h2
        rw [on_bind] at h2
        rw [if_pos rfl]
        refine tO_step R3 (bxm (E1.trans (E2.trans E3)) (by simpa using h2)) fun a4 r4 v4 H4 O4 h4 R4 E4 p4 => ?_
        obtain ⟨d, e, h4⟩ := on_ofO h4
        obtain ⟨x', ex', e⟩ := bind_some e
        obtain ⟨y', ey', e⟩ := bind_some e
        refine hs' v2 v4 x' y' d H4 (Ow O4 G) Q ((p2.mono (E3.sm.trans E4.sm)).get R4 ex') (p4.get R4 ey') R4.trO e fun v H' sm rp => ?_
        exact h4 v H' O4 (R4.same sm) (E1.trans (E2.trans (E3.trans (E4.trans (.same sm R4.tr))))) rp
      | false =>
        rw [if_neg (by decide)]
        exact h2 (.bl false) H3 O2 R3 (E1.trans (E2.trans E3)) (.bl false)
    | _ => exact False.elim h2
theorem ct_chain {op op' : CmpOp} {r r' : R2} {sem sem' : D → D → Option D} (ho : OpR X (compareOp op) r) (ho' : OpR X (compareOp op') r') (hs : SemR X r sem) (hs' : SemR X r' sem') (ha : CO X W ms a f) (hb : CO X W ms b g) (hc : CO X W ms c k)
    (hl : lastMarks [op, op'] [b, c] = false := by rfl) : CT X W ms (.Compare a [op, op'] [b, c] pos) (tBool (eChain sem sem' f g k)) :=
  ct_bool (pt_chain ho ho' ha hb hc hl) fun h => chain_read hs hs' h
end
/-- a body that always returns -/
def Nnx (g : Rho → SR) : Prop := ∀ r r', g r ≠ .nx r'
theorem nnx_seq {g k : Rho → SR} (h : Nnx k) : Nnx (sSeq g k) := fun r r' e => by
  unfold sSeq at e
  cases q : g r with
  | nx r1 => rw [q] at e; exact h r1 r' e
  | _ => rw [q] at e; cases e
theorem nnx_ret {f : Rho → R D} : Nnx (sRet f) := fun r r' e => by
  unfold sRet at e
  cases q : f r <;> (rw [q] at e; cases e)
theorem nnx_if {t : Rho → R Bool} {g k : Rho → SR} (hg : Nnx g) (hk : Nnx k) : Nnx (sIf t g k) := fun r r' e => by
  unfold sIf at e
  cases q : t r with
  | ok b r1 =>
    rw [q] at e
    cases b with
    | true => exact hg r1 r' e
    | false => exact hk r1 r' e
  | _ => rw [q] at e; cases e
theorem bt_len : bootBuiltins "len" = some (.builtin "len") := by decide +kernel
theorem bt_ord : bootBuiltins "ord" = some (.builtin "ord") := by decide +kernel
theorem bt_repr : bootBuiltins "repr" = some (.builtin "repr") := by decide +kernel
theorem bt_all : bootBuiltins "all" = some (.builtin "all") := by decide +kernel
theorem bt_any : bootBuiltins "any" = some (.builtin "any") := by decide +kernel
theorem bt_int : bootBuiltins "int" = some (.type "int") := by decide +kernel
theorem bt_str : bootBuiltins "str" = some (.type "str") := by decide +kernel
end DL
end

section
set_option maxHeartbeats 1000000
namespace DL
open PySem PySem.Spec PyProof.Rows L2
/-! ## exceptions: raise, try, isinstance -/
/-- an own exception class of the module -/
structure Ec (K : PySem.W.Frag) (mg : Str → Option Value) (c : Str) : Prop where
  g : mg c = some (.ref (He.ga K c))
  i : PySem.W.excIn K (He.ga K c) He.veBase "ValueError.__new__" = true
  k : PySem.W.keepIn K (.ref (He.ga K c)) = true
  s : PySem.W.subIn K (.ref (He.ga K c)) (.type "BaseException") = some true
  t : PySem.W.typeIn K (.ref (He.ga K c)) = some (.type "type")
def sRaise (c : Str) : Rho → SR := fun r => .exc c .none r
section
variable {X : Cx} {W : WX} {ms : Ms} {rs : Shp}
theorem cs_raise {c m : Str} {j : Nat} {p p2 p3 pos : Pos} (ec : Ec X.K X.mg c) (tk : Takes X W) (hc : X.calm = true := by rfl) (hg : Gl X c := by rfl) (hdb : (c == ("__debug__" : Str)) = false := by decide) :
    CS X W ms rs (.Raise (some (.Call (.Name c p) [.Constant (.str m) j p2] [] p3)) none pos) (sRaise c) :=
  (ps_raise hc tk (pmk_own PySem.F.excBase_ValueError ec.i ec.g ec.k (raises_own ec.s ec.t) hg hdb)).weak fun E σ H ⟨r, O, G, R, h⟩ =>
    h _ none σ H O R .refl .refl ⟨ec.g, .inl ⟨rfl, rfl⟩⟩
/-- what an except clause y says of the classes of a list -/
def TabOk (K : PySem.W.Frag) (mg : Str → Option Value) (y : Value) (tab : List (Str × Bool)) : Prop := ∀ c b, tab.lookup c = some b → ∃ D, mg c = some (.ref D) ∧ PySem.W.exmOne K (.ref D) y = some b
def unAs (i : Nat) : SR → SR
  | .nx r => .nx (r.set i none)
  | .rt d r => .rt d (r.set i none)
  | .bk r => .bk (r.set i none)
  | .ct r => .ct (r.set i none)
  | .exc _ _ _ => .bad
  | .bad => .bad
def excV (c : Str) : D := .dict [(.str c, .none)]
def sTryAs (i : Nat) (tab : List (Str × Bool)) (g : Rho → SR) (h : Str → Rho → SR) : Rho → SR := fun r => match g r with
  | .exc c .none r1 => match tab.lookup c with
    | some true => unAs i (h c (r1.set i (some (excV c))))
    | some false => .exc c .none r1
    | none => .bad
  | .exc _ _ _ => .bad
  | s => s
def noExc : SR → SR
  | .exc _ _ _ => .bad
  | s => s
def sTry (tab : List (Str × Bool)) (g : Rho → SR) (h : Rho → SR) : Rho → SR := fun r => match g r with
  | .exc c .none r1 => match tab.lookup c with
    | some true => noExc (h r1)
    | some false => .exc c .none r1
    | none => .bad
  | .exc _ _ _ => .bad
  | s => s
def msX (ms : Ms) (i : Nat) (a : Addr) : Ms := fun j => if j = i then { sh := .exn a, fx := true } else ms j
theorem msX_same {i : Nat} {a : Addr} : msX ms i a i = { sh := .exn a, fx := true } := if_pos rfl
theorem msX_ne {i j : Nat} {a : Addr} (h : j ≠ i) : msX ms i a j = ms j := if_neg h
theorem own_pur {w : World} {K : PySem.W.Frag} {σ : L2.St} {H : Hp} {r : Rho} {O : Own} {G : Gh} (h : Rel w K ms σ H r O G) {i : Nat} (hs : (ms i).sh = .pur) : O i = [] := by
  by_cases q : ∃ d, r[i]? = some (some d)
  · obtain ⟨d, e⟩ := q
    obtain ⟨v, _, rs⟩ := h.slot i d e
    rw [hs] at rs
    exact rs.purI.1
  · exact h.emp i fun d e => q ⟨d, e⟩
theorem Rel.exnIn {w : World} {K : PySem.W.Frag} {σ : L2.St} {H : Hp} {r : Rho} {O : Own} {G : Gh} (h : Rel w K ms σ H r O G) {i : Nat} {a : Addr} {c : Str} (hs : (ms i).sh = .pur) (hi : i < r.length) : Rel w K (msX ms i a) (σ.set i (some (.ref a))) H (r.set i (some (excV c))) O G := by
  refine ⟨by rw [List.length_set, List.length_set]; exact h.len, fun j e he => ?_, fun j hj => ?_, h.tr, h.dj, h.dG⟩
  · by_cases q : j = i
    · subst q
      rw [List.getElem?_set_self hi] at he
      cases he
      refine ⟨.ref a, by rw [List.getElem?_set_self (by rw [← h.len]; exact hi)], ?_⟩
      rw [msX_same, own_pur h hs]
      exact .exn
    · rw [List.getElem?_set_ne (Ne.symm q)] at he
      obtain ⟨u, e1, rs⟩ := h.slot j e he
      refine ⟨u, by rw [List.getElem?_set_ne (Ne.symm q)]; exact e1, ?_⟩
      rw [msX_ne q]
      exact rs
  · by_cases q : j = i
    · subst q
      exact own_pur h hs
    · exact h.emp j fun d e => hj d (by rw [List.getElem?_set_ne (Ne.symm q)]; exact e)
theorem Rel.exnOut {w : World} {K : PySem.W.Frag} {σ : L2.St} {H : Hp} {r : Rho} {O : Own} {G : Gh} {i : Nat} {a : Addr} (h : Rel w K (msX ms i a) σ H r O G) : Rel w K ms (σ.set i none) H (r.set i none) O G := by
  have hO : O i = [] := by
    by_cases q : ∃ d, r[i]? = some (some d)
    · obtain ⟨d, e⟩ := q
      obtain ⟨v, _, rs⟩ := h.slot i d e
      rw [msX_same] at rs
      generalize O i = A at rs
      cases rs
      rfl
    · exact h.emp i fun d e => q ⟨d, e⟩
  refine ⟨by rw [List.length_set, List.length_set]; exact h.len, fun j e he => ?_, fun j hj => ?_, h.tr, h.dj, h.dG⟩
  · by_cases q : j = i
    · subst q
      rw [List.getElem?_set] at he
      split at he
      · split at he <;> cases he
      · rename_i z; exact absurd rfl z
    · rw [List.getElem?_set_ne (Ne.symm q)] at he
      obtain ⟨u, e1, rs⟩ := h.slot j e he
      refine ⟨u, by rw [List.getElem?_set_ne (Ne.symm q)]; exact e1, ?_⟩
      rw [msX_ne q] at rs
      exact rs
  · by_cases q : j = i
    · subst q
      exact hO
    · exact h.emp j fun d e => hj d (by rw [List.getElem?_set_ne (Ne.symm q)]; exact e)
theorem fxX {σ σ1 σ2 : L2.St} {i : Nat} {a : Addr} (f : Fx ms σ σ1) (hf : (ms i).fx = false) (f2 : Fx (msX ms i a) (σ1.set i (some (.ref a))) σ2) : Fx ms σ (σ2.set i none) :=
  ⟨by rw [List.length_set, f2.len, List.length_set, f.len], fun j hj => by
    have q : j ≠ i := fun e => by rw [e, hf] at hj; cases hj
    have hj' : (msX ms i a j).fx = true := by rw [msX_ne q]; exact hj
    rw [List.getElem?_set_ne (Ne.symm q), f2.at_ j hj', List.getElem?_set_ne (Ne.symm q), f.at_ j hj]⟩
/-- the classes' names tell their objects -/
theorem mg_det {mg : Str → Option Value} {c : Str} {cv : Value} {D : Addr} (h1 : mg c = some cv) (h2 : mg c = some (.ref D)) : cv = .ref D := by
  rw [h1] at h2; exact Option.some.inj h2
def tsAs (X : Cx) (ms : Ms) (rs : Shp) (i : Nat) (tab : List (Str × Bool)) (h : Str → Rho → SR) : Addr → Value → Option Addr → TS := fun a cls d E σ H =>
  ∃ c D r O G, X.mg c = some (.ref D) ∧ cls = .ref D ∧ d = none ∧ tab.lookup c = some true ∧ Rel X.w X.K (msX ms i a) σ H r O G ∧ SOn X W0 (msX ms i a) rs E σ H O G (h c r)
theorem cs_tryAs {i : Nat} {n y : Str} {yv : Value} {tab : List (Str × Bool)} {body suite : List Stmt} {b₀ : Stmt} {np pos pos' : Pos} {g : Rho → SR} {h : Str → Rho → SR}
    (hN : X.N.Nodup) (hc : Names X y yv) (tk : Takes X W) (ht : TabOk X.K X.mg yv tab)
    (hb : ∀ (W' : WX) (pn : List (Addr × Obj)) (xe : Value → Shared → Prop), Takes (X.tr pn xe) W' → PassesOwn (model X.prog X.w) X.A X.env xe → CSs (X.tr pn xe) W' ms rs body g)
    (hsu : ∀ (a : Addr) (oe : Obj) (D : Addr) (c : Str) (pn : List (Addr × Obj)), X.mg c = some (.ref D) → tab.lookup c = some true → Zc (.ref D) none oe → (∃ vs, oe.data = .fields vs) → CSs (X.suite a ((a, oe) :: pn)) W0 (msX ms i a) rs (b₀ :: suite) (h c))
    (hp : (ms i).sh = .pur := by rfl) (hfx : (ms i).fx = false := by rfl) (hi : X.N[i]? = some n := by rfl) (hln : X.env.kindOf n = some .local := by rfl) (hs : X.stack = X.env :: X.outer := by rfl) (hf : X.env.frame = some X.env.locals := by rfl) :
    CS X W ms rs (.Try body [.ExceptHandler (some (.Name y np)) (some n) (b₀ :: suite) pos'] [] [] pos) (sTryAs i tab g h) := by
  refine (ps_try_as (tb := fun W' => tS X W' ms rs g) (ts := tsAs X ms rs i tab h) (Wout := W) hs hf hN hi hln hc tk (fun W' pn xe t p => hb W' pn xe t p) (fun a oe cls d pn hz hv => ?_)).lenW ?_
  · refine ⟨fun pins s σ H E I q => ?_⟩
    obtain ⟨c, D, r, O, G, h1, rfl, rfl, h2, R, q⟩ := q
    exact (hsu a oe D c pn h1 h2 hz hv).run pins s σ H E I ⟨r, O, G, R, q⟩
  · intro E σ H hl ⟨r, O, G, R, q⟩
    refine ⟨r, O, G, R, ?_⟩
    unfold sTryAs at q
    cases e : g r with
    | nx r1 => rw [e] at q; exact q
    | rt d r1 => rw [e] at q; exact q
    | bk r1 => rw [e] at q; exact q
    | ct r1 => rw [e] at q; exact q
    | bad => rw [e] at q; exact q
    | exc c x r1 =>
      rw [e] at q
      intro cv dx σ' H' O' R' E' F' ex
      cases x with
      | none =>
        simp only at q
        obtain ⟨h1, h2⟩ := ex
        have h2 : dx = none := by
          rcases h2 with ⟨_, h2⟩ | ⟨_, _, _, h2, _⟩
          · exact h2
          · cases h2
        subst h2
        cases hb2 : tab.lookup c with
        | none => rw [hb2] at q; exact False.elim q
        | some b =>
          rw [hb2] at q
          obtain ⟨D, g1, g2⟩ := ht c b hb2
          have := mg_det h1 g1
          subst this
          refine ⟨b, g2, fun hbt a na => ?_, fun hbf => ?_⟩
          · subst hbt
            simp only at q
            have hil : i < r1.length := by rw [R'.len, F'.len, hl]; exact (List.getElem?_eq_some_iff.mp hi).1
            refine ⟨c, D, r1.set i (some (excV c)), O', G, g1, rfl, rfl, hb2, R'.exnIn hp hil, ?_⟩
            cases e3 : h c (r1.set i (some (excV c))) with
            | nx r2 => rw [e3] at q; exact fun σ3 H3 O3 R3 E3 F3 => q _ H3 O3 R3.exnOut (E'.trans E3) (fxX F' hfx F3)
            | bk r2 => rw [e3] at q; exact fun σ3 H3 O3 R3 E3 F3 => q _ H3 O3 R3.exnOut (E'.trans E3) (fxX F' hfx F3)
            | ct r2 => rw [e3] at q; exact fun σ3 H3 O3 R3 E3 F3 => q _ H3 O3 R3.exnOut (E'.trans E3) (fxX F' hfx F3)
            | rt d r2 => rw [e3] at q; exact fun v σ3 H3 O3 A R3 E3 n3 F3 rp => q v _ H3 O3 A R3.exnOut (E'.trans E3) n3 (fxX F' hfx F3) rp
            | exc _ _ _ => rw [e3] at q; exact False.elim q
            | bad => rw [e3] at q; exact False.elim q
          · subst hbf
            exact q _ none σ' H' O' R' E' F' ⟨h1, .inl ⟨rfl, rfl⟩⟩
      | _ => exact False.elim q
def tsOnly (X : Cx) (ms : Ms) (rs : Shp) (h : Rho → SR) : Addr → Value → Option Addr → TS := fun _ _ _ E σ H => ∃ r O G, Rel X.w X.K ms σ H r O G ∧ SOn X W0 ms rs E σ H O G (h r)
theorem cs_try {y : Str} {yv : Value} {tab : List (Str × Bool)} {body suite : List Stmt} {b₀ : Stmt} {np pos pos' : Pos} {g h : Rho → SR}
    (hc : Names X y yv) (tk : Takes X W) (ht : TabOk X.K X.mg yv tab)
    (hb : ∀ (W' : WX) (pn : List (Addr × Obj)) (xe : Value → Shared → Prop), Takes (X.tr pn xe) W' → PassesOwn (model X.prog X.w) X.A X.env xe → CSs (X.tr pn xe) W' ms rs body g)
    (hsu : ∀ (a : Addr) (oe : Obj) (pn : List (Addr × Obj)), CSs (X.suite a ((a, oe) :: pn)) W0 ms rs (b₀ :: suite) h)
    (hs : X.stack = X.env :: X.outer := by rfl) (hf : X.env.frame = some X.env.locals := by rfl) :
    CS X W ms rs (.Try body [.ExceptHandler (some (.Name y np)) none (b₀ :: suite) pos'] [] [] pos) (sTry tab g h) := by
  refine (ps_try_only (tb := fun W' => tS X W' ms rs g) (ts := tsOnly X ms rs h) (Wout := W) hs hf hc tk (fun W' pn xe t p => hb W' pn xe t p) (fun a oe cls d pn hz hv => ?_)).lenW ?_
  · refine ⟨fun pins s σ H E I q => ?_⟩
    obtain ⟨r, O, G, R, q⟩ := q
    exact (hsu a oe pn).run pins s σ H E I ⟨r, O, G, R, q⟩
  · intro E σ H hl ⟨r, O, G, R, q⟩
    refine ⟨r, O, G, R, ?_⟩
    unfold sTry at q
    cases e : g r with
    | nx r1 => rw [e] at q; exact q
    | rt d r1 => rw [e] at q; exact q
    | bk r1 => rw [e] at q; exact q
    | ct r1 => rw [e] at q; exact q
    | bad => rw [e] at q; exact q
    | exc c x r1 =>
      rw [e] at q
      intro cv dx σ' H' O' R' E' F' ex
      cases x with
      | none =>
        simp only at q
        obtain ⟨h1, h2⟩ := ex
        have h2 : dx = none := by
          rcases h2 with ⟨_, h2⟩ | ⟨_, _, _, h2, _⟩
          · exact h2
          · cases h2
        subst h2
        cases hb2 : tab.lookup c with
        | none => rw [hb2] at q; exact False.elim q
        | some b =>
          rw [hb2] at q
          obtain ⟨D, g1, g2⟩ := ht c b hb2
          have := mg_det h1 g1
          subst this
          refine ⟨b, g2, fun hbt a na => ?_, fun hbf => ?_⟩
          · subst hbt
            simp only at q
            refine ⟨r1, O', G, R', ?_⟩
            cases e3 : h r1 with
            | nx r2 => rw [e3] at q; exact fun σ3 H3 O3 R3 E3 F3 => q _ H3 O3 R3 (E'.trans E3) (F'.trans F3)
            | bk r2 => rw [e3] at q; exact fun σ3 H3 O3 R3 E3 F3 => q _ H3 O3 R3 (E'.trans E3) (F'.trans F3)
            | ct r2 => rw [e3] at q; exact fun σ3 H3 O3 R3 E3 F3 => q _ H3 O3 R3 (E'.trans E3) (F'.trans F3)
            | rt d r2 => rw [e3] at q; exact fun v σ3 H3 O3 A R3 E3 n3 F3 rp => q v _ H3 O3 A R3 (E'.trans E3) n3 (F'.trans F3) rp
            | exc _ _ _ => rw [e3] at q; exact False.elim q
            | bad => rw [e3] at q; exact False.elim q
          · subst hbf
            exact q _ none σ' H' O' R' E' F' ⟨h1, .inl ⟨rfl, rfl⟩⟩
      | _ => exact False.elim q
end
/-! isinstance(e, Y), e the exception of the suite -/
def isTab (K : PySem.W.Frag) (mg : Str → Option Value) (Y : Addr) (tab : List (Str × Bool)) : Prop := ∀ c b, tab.lookup c = some b → ∃ D, mg c = some (.ref D) ∧ PySem.W.kitOne K (.ref D) (.ref Y) = some b ∧ ExcC K D
def eIsE (i : Nat) (c : Str) (tab : List (Str × Bool)) : Rho → R D := fun r => match (r[i]?).join with
  | some (.dict _) => .ofO ((tab.lookup c).map .bool) r
  | _ => .bad
section
variable {X : Cx} {W : WX} {ms : Ms} {rs : Shp}
theorem ce_isE {a D Y : Addr} {oe : Obj} {pn : List (Addr × Obj)} {i : Nat} {c n y : Str} {tab : List (Str × Bool)} {p p1 p2 pos : Pos} (hD : X.mg c = some (.ref D)) (hz : Zc (.ref D) none oe) (hv : ∃ vs, oe.data = .fields vs) (hY : X.mg y = some (.ref Y)) (ht : isTab X.K X.mg Y tab)
    (hb : X.mg "isinstance" = none) (hsh : (ms i).sh = .exn a) (hi : X.N[i]? = some n := by rfl) (hvis : Vis X.env.scope n := by first | exact .inl rfl | exact .inr (.inl rfl)) (hg : Gl X "isinstance" := by rfl) (hgy : Gl X y := by rfl) (hdy : (y == ("__debug__" : Str)) = false := by decide) (hdn : (n == ("__debug__" : Str)) = false := by decide) (hcn : (n == ("__classdict__" : Str)) = false := by decide)
    (he : starEach [.Name n p1, .Name y p2] X.env = (false, eval (.Name n p1) X.env) :: starEach [.Name y p2] X.env := by rfl) (hpl : (backTo pos (starEach [.Name y p2] X.env)).any (·.1) = false := by rfl) :
    CE (X.suite a ((a, oe) :: pn)) W ms (.Call (.Name "isinstance" p) [.Name n p1, .Name y p2] [] pos) (eIsE i c tab) := by
  by_cases hx : ∃ b, tab.lookup c = some b
  · obtain ⟨b, hb1⟩ := hx
    obtain ⟨D', g1, g2, g3⟩ := ht c b hb1
    rw [hD] at g1
    cases g1
    have hA : PA (X.suite a ((a, oe) :: pn)) [.Name n p1, .Name y p2] (tCons (tVar i) (tCons (tC (.ref Y)) tNil)) := pa_cons (pe_var (X := X.suite a ((a, oe) :: pn)) hi hvis hdn hcn) (pa_cons (pe_glob (X := X.suite a ((a, oe) :: pn)) hgy hY rfl hdy) pa_nil)
    refine (pe_callB (X := X.suite a ((a, oe) :: pn)) (call_isE g3 hz hv) hg hb (by rfl) hA (by decide) (by decide) he hpl).weak fun σ H Q ⟨r, O, G, R, h⟩ => ?_
    unfold eIsE at h
    cases e : (r[i]?).join with
    | none => rw [e] at h; exact False.elim h
    | some d =>
      rw [e] at h
      obtain ⟨v, e1, rs⟩ := R.slot i d (join_some e)
      rw [hsh] at rs
      obtain ⟨rfl, c', rfl⟩ := rs.exnI
      simp only [hb1, Option.map_some] at h
      exact ⟨.ref a, e1, ⟨.ref Y, .ref Y, b, rfl, fun u q => q, g2, h (.bl b) H O R .refl (.bl b)⟩⟩
  · refine ⟨fun pins s σ H Q I ⟨r, O, G, R, h⟩ => ?_⟩
    unfold eIsE at h
    have hn : tab.lookup c = none := by
      cases e : tab.lookup c with
      | none => rfl
      | some b => exact absurd ⟨b, e⟩ hx
    rw [hn] at h
    exfalso
    cases e : (r[i]?).join with
    | none => rw [e] at h; exact h
    | some d => rw [e] at h; cases d <;> exact h
end
end DL
end

section
set_option maxHeartbeats 1000000
namespace DL
open PySem PySem.Spec PyProof.Rows L2
/-! ## slices, tuples, more operators -/
section
variable {X : Cx}
theorem new_tup {H : Hp} {W : Gh} {p : Addr} {vs : List V} {ds : List D} (tr : ∀ p, W p → H p ≠ none) (hp : H p = none) (ra : RepAll X.K (msk H W) vs ds) : Same H (upd H p (.tup vs)) ∧ Rep X.K (msk (upd H p (.tup vs)) W) (.ref p) (.tuple ds) := by
  have sm : Same H (upd H p (.tup vs)) := fun b u e => by rw [upd_ne (ne_of_none e hp)]; exact e
  exact ⟨sm, .tup (.inl (.inl (msk_mk (fun w => tr p w hp) upd_same))) (ra.mono (msk_same sm))⟩
theorem new_lst {H : Hp} {W : Gh} {p : Addr} {vs : List V} {ds : List D} (tr : ∀ p, W p → H p ≠ none) (hp : H p = none) (ra : RepAll X.K (msk H W) vs ds) : Same H (upd H p (.lst vs)) ∧ Rep X.K (msk (upd H p (.lst vs)) W) (.ref p) (.list ds) := by
  have sm : Same H (upd H p (.lst vs)) := fun b u e => by rw [upd_ne (ne_of_none e hp)]; exact e
  exact ⟨sm, .lst (.inl (msk_mk (fun w => tr p w hp) upd_same)) (ra.mono (msk_same sm))⟩
def cutD (xs : List D) (lo hi : Option Int) : List D := (xs.drop (HT.sIx xs.length 0 lo)).take (HT.sIx xs.length xs.length hi - HT.sIx xs.length 0 lo)
def dSl : D → Option Int → Option Int → Option D
  | .str z, lo, hi => if z.length ≤ sizeLine then some (.str (cutS z lo hi)) else none
  | .tuple ds, lo, hi => some (.tuple (cutD ds lo hi))
  | .list ds, lo, hi => some (.list (cutD ds lo hi))
  | _, _, _ => none
def SemS (X : Cx) (r : V → Option Int → Option Int → Hp → VK → Prop) (sem : D → Option Int → Option Int → Option D) : Prop := ∀ (x : V) (a d : D) (lo hi : Option Int) (H : Hp) (W : Gh) (Q : VK), RepB X.K (msk H W) H x a → (∀ p, W p → H p ≠ none) → sem a lo hi = some d →
  (∀ v H', Same H H' → Rep X.K (msk H' W) v d → Q v H') → r x lo hi H Q
theorem sl_all : SlR X (fun x lo hi H Q => rSlS x lo hi H Q ∨ rSlA X.K x lo hi H Q ∨ rSlL X.K x lo hi H Q) := sl_str.or (sl_tupA.or sl_list)
theorem RepAll.cut {K : PySem.W.Frag} {H : Hp} {vs : List V} {ds : List D} (h : RepAll K H vs ds) (lo hi : Option Int) : RepAll K H (cutV vs lo hi) (cutD ds lo hi) := by
  unfold cutV cutD
  rw [h.len]
  exact (h.drop _).take _
theorem cutD_whole {ds : List D} {lo hi : Option Int} (h : HT.sIx ds.length 0 lo = 0 ∧ HT.sIx ds.length ds.length hi = ds.length) : cutD ds lo hi = ds := by
  unfold cutD
  rw [h.1, h.2, List.drop_zero, Nat.sub_zero, List.take_length]
theorem ss_all : SemS X (fun x lo hi H Q => rSlS x lo hi H Q ∨ rSlA X.K x lo hi H Q ∨ rSlL X.K x lo hi H Q) dSl := fun x a d lo hi H W Q ra tr e q => by
  cases a <;> first | (cases e; done) | skip
  · obtain ⟨hz, rfl⟩ := ite_some e
    exact .inl ⟨_, ra.strI, hz, q _ H (Same.refl _) (.str _)⟩
  · cases e
    obtain ⟨p, xs, rfl, h1, r⟩ := ra.lstI
    exact .inr (.inr ⟨p, xs, rfl, .inl h1, fun l hl => let n := new_lst tr hl (r.cut lo hi); q _ _ n.1 n.2⟩)
  · cases e
    rename_i ds
    obtain ⟨p, xs, rfl, h1, r⟩ := ra.tupI
    refine .inr (.inl ⟨p, xs, rfl, h1, fun h => ?_, fun h l hl => let n := new_tup tr hl (r.cut lo hi); q _ _ n.1 n.2⟩)
    rw [r.len] at h
    rw [cutD_whole h] at q
    rcases ra with ra | ⟨_, _, _, _, e0, _⟩
    · exact q _ H (Same.refl _) ra
    · cases e0
end
section
variable {X : Cx} {W : WX} {ms : Ms} {e : Expr} {pos p2 : Pos}
def tP (X : Cx) (W : WX) (ms : Ms) (f : Rho → R (Option Int)) : TO := fun σ H Q => ∃ r O G, Rel X.w X.K ms σ H r O G ∧
  (f r).on (fun d r' => ∀ H' O', Rel X.w X.K ms σ H' r' O' G → Ext H O G H' O' G → Q d H') (Bx X W ms σ H O G)
abbrev CP (X : Cx) (W : WX) (ms : Ms) (e : Option Expr) (f : Rho → R (Option Int)) : Prop := PO X e (tP X W ms f)
def pNone : Rho → R (Option Int) := fun r => .ok none r
def pSome (f : Rho → R D) : Rho → R (Option Int) := fun r => (f r).bind fun d r1 => match d with
  | .int i => .ok (some i) r1
  | _ => .bad
theorem _root_.L2.PO.weak {X : Cx} {e : Option Expr} {t t' : TO} (h : PO X e t) (w : ∀ σ H Q, t' σ H Q → t σ H Q) : PO X e t' := ⟨fun pins s σ H Q I q => h.run pins s σ H Q I (w σ H Q q)⟩
theorem cp_none : CP X W ms none pNone := po_none.weak fun σ H Q ⟨r, O, G, R, h⟩ => h H O R .refl
theorem cp_some {f : Rho → R D} (h : CE X W ms e f) : CP X W ms (some e) (pSome f) := (po_some h).weak fun σ H Q ⟨r, O, G, R, h⟩ => by
  unfold pSome at h
  rw [on_bind] at h
  refine tE_step R h fun d r1 v H1 O1 h1 R1 E1 p1 => ?_
  cases d with
  | int i => exact ⟨i, p1.intI, h1 H1 O1 R1 E1⟩
  | _ => exact False.elim h1
def eSl (f : Rho → R Opd) (g k : Rho → R (Option Int)) : Rho → R D := fun r => (f r).bind fun o r1 => (g r1).bind fun lo r2 => (k r2).bind fun hi r3 => .ofO ((o.get r3).bind fun d => dSl d lo hi) r3
theorem tP_step {f : Rho → R (Option Int)} {A : Option Int → Rho → Prop} {Q : Option Int → Hp → Prop} {σ : L2.St} {H : Hp} {r : Rho} {O : Own} {G : Gh} (h : Rel X.w X.K ms σ H r O G) (hh : (f r).on A (Bx X W ms σ H O G))
    (q : ∀ d r' H' O', A d r' → Rel X.w X.K ms σ H' r' O' G → Ext H O G H' O' G → Q d H') : tP X W ms f σ H Q :=
  ⟨r, O, G, h, hh.mono (fun d r' a H' O' R E => q d r' H' O' a R E) fun _ _ _ b => b⟩
theorem ce_sl {lo hi : Option Expr} {f : Rho → R Opd} {g k : Rho → R (Option Int)} (he : CO X W ms e f) (hl : CP X W ms lo g) (hh : CP X W ms hi k) : CE X W ms (.Subscript e (.Slice lo hi none p2) pos) (eSl f g k) :=
  (pe_slice sl_all he hl hh).weak fun σ H Q ⟨r, O, G, R, h⟩ => by
    unfold eSl at h
    rw [on_bind] at h
    refine tO_step R h fun o r1 v H1 O1 h1 R1 E1 p1 => ?_
    rw [on_bind] at h1
    refine tP_step R1 (bxm E1 h1) fun lo r2 H2 O2 h2 R2 E2 => ?_
    rw [on_bind] at h2
    refine tP_step R2 (bxm (E1.trans E2) h2) fun hi r3 H3 O3 h3 R3 E3 => ?_
    obtain ⟨d, e, h3⟩ := on_ofO h3
    obtain ⟨x, ex, e⟩ := bind_some e
    exact ss_all v x d lo hi H3 (Ow O3 G) Q ((p1.mono (E2.sm.trans E3.sm)).get R3 ex) R3.trO e fun u H' sm rp => h3 u H' O3 (R3.same sm) (E1.trans (E2.trans (E3.trans (.same sm R3.tr)))) rp
end
section
variable {X : Cx}
/-! + and * -/
def dAdd2 : D → D → Option D
  | .tuple a, .tuple b => if a.length + b.length ≤ sizeLine then some (.tuple (a ++ b)) else none
  | x, y => dAdd x y
theorem or_add2 : OpR X (binaryOp .Add) (fun x y H Q => rAdd x y H Q ∨ rCatA X.K x y H Q) := or_add.or op_catA
theorem RepB.pure {K : PySem.W.Frag} {M H : Hp} {v : V} {ds : List D} (h : RepB K M H v (.tuple ds)) : Rep K M v (.tuple ds) := by
  rcases h with h | ⟨_, _, _, _, e0, _⟩
  · exact h
  · cases e0
theorem sr_add2 : SemR X (fun x y H Q => rAdd x y H Q ∨ rCatA X.K x y H Q) dAdd2 := fun x y a b d H W Q ra rb tr e q => by
  by_cases h : ∃ as bs, a = .tuple as ∧ b = .tuple bs
  · obtain ⟨as, bs, rfl, rfl⟩ := h
    obtain ⟨hz, rfl⟩ := ite_some e
    obtain ⟨p, xs, rfl, h1, r1⟩ := ra.tupI
    obtain ⟨p', ys, rfl, h2, r2⟩ := rb.tupI
    refine .inr ⟨p, p', xs, ys, rfl, rfl, h1, h2, by rw [r1.len, r2.len]; exact hz, fun hx => ?_, fun _ hy => ?_, fun _ _ l hl => let n := new_tup tr hl (r1.append r2); q _ _ n.1 n.2⟩
    · subst hx
      cases r1
      exact q _ H (Same.refl _) rb.pure
    · subst hy
      cases r2
      rw [List.append_nil] at q
      exact q _ H (Same.refl _) ra.pure
  · have e' : dAdd a b = some d := by
      unfold dAdd2 at e
      split at e
      · exact absurd ⟨_, _, rfl, rfl⟩ h
      · exact e
    exact .inl (sr_add x y a b d H W Q ra rb tr e' q)
def dMul2 : D → D → Option D
  | .tuple xs, .int k => if (!xs.isEmpty && decide (2 ≤ k) && decide (k ≤ 1000) && decide (xs.length ≤ 1000)) = true then some (.tuple (List.replicate k.toNat xs).flatten) else none
  | x, y => dMul x y
theorem or_mul2 : OpR X (binaryOp .Mult) (fun x y H Q => rMul x y H Q ∨ rRepT X.K x y H Q) := or_mul.or op_repT
theorem sr_mul2 : SemR X (fun x y H Q => rMul x y H Q ∨ rRepT X.K x y H Q) dMul2 := fun x y a b d H W Q ra rb tr e q => by
  by_cases h : ∃ as k, a = .tuple as ∧ b = .int k
  · obtain ⟨as, k, rfl, rfl⟩ := h
    obtain ⟨hz, rfl⟩ := ite_some e
    simp only [Bool.and_eq_true, Bool.not_eq_true', decide_eq_true_eq] at hz
    obtain ⟨⟨⟨h1, h2⟩, h3⟩, h4⟩ := hz
    obtain ⟨p, xs, rfl, hx, r1⟩ := ra.tupI
    rw [rb.intI]
    refine .inr ⟨p, k, xs, rfl, rfl, hx, fun z => ?_, h2, h3, by rw [r1.len]; exact h4, fun l hl => let n := new_tup tr hl (r1.rep _); q _ _ n.1 n.2⟩
    subst z
    cases r1
    cases h1
  · have e' : dMul a b = some d := by
      unfold dMul2 at e
      split at e
      · exact absurd ⟨_, _, rfl, rfl⟩ h
      · exact e
    exact .inl (sr_mul x y a b d H W Q ra rb tr e' q)
/-! in -/
def dIn : D → D → Option D
  | .str i, .str j => some (.bool (strIn i j))
  | d, .list ds => if (SeqAt.shaped d && SeqAt.shaped (.list ds)) = true then some (.bool (ds.any fun z => PyData.eqv z d)) else none
  | _, _ => none
def dNotIn : D → D → Option D
  | .str i, .str j => some (.bool (!strIn i j))
  | d, .list ds => if (SeqAt.shaped d && SeqAt.shaped (.list ds)) = true then some (.bool (!ds.any fun z => PyData.eqv z d)) else none
  | _, _ => none
theorem or_in (hu : X.A.units + 64 < cLine) (hu2 : X.A.units + 65 < cLine) : OpR X (compareOp .In) (fun x y H Q => (∃ i j, x = .str i ∧ y = .str j ∧ Q (.bl (!(Builtin.Str.occurrences j i 0 j.length 1).isEmpty)) H) ∨ rInD X.K x y H Q) := op_in_str.or (op_inD hu2)
theorem sr_in : SemR X (fun x y H Q => (∃ i j, x = .str i ∧ y = .str j ∧ Q (.bl (!(Builtin.Str.occurrences j i 0 j.length 1).isEmpty)) H) ∨ rInD X.K x y H Q) dIn := fun x y a b d H W Q ra rb tr e q => by
  cases b <;> first | (cases a <;> (first | (cases e; done) | skip)) | skip
  · cases e
    rw [ra.strI, rb.strI]
    exact .inl ⟨_, _, rfl, rfl, q _ H (Same.refl _) (.bl _)⟩
  all_goals
    obtain ⟨hz, rfl⟩ := ite_some e
    obtain ⟨h1, h2⟩ := Bool.and_eq_true_iff.mp hz
    exact .inr ⟨_, _, ra.rep.dp, rb.rep.dp, h1, h2, q _ H (Same.refl _) (.bl _)⟩
theorem or_notIn (hu : X.A.units + 64 < cLine) (hu2 : X.A.units + 65 < cLine) : OpR X (compareOp .NotIn) (fun x y H Q => (∃ i j, x = .str i ∧ y = .str j ∧ Q (.bl (!!(Builtin.Str.occurrences j i 0 j.length 1).isEmpty)) H) ∨ rNotInD X.K x y H Q) := op_notIn_str.or (op_notInD hu2)
theorem sr_notIn : SemR X (fun x y H Q => (∃ i j, x = .str i ∧ y = .str j ∧ Q (.bl (!!(Builtin.Str.occurrences j i 0 j.length 1).isEmpty)) H) ∨ rNotInD X.K x y H Q) dNotIn := fun x y a b d H W Q ra rb tr e q => by
  cases b <;> first | (cases a <;> (first | (cases e; done) | skip)) | skip
  · cases e
    rw [ra.strI, rb.strI]
    refine .inl ⟨_, _, rfl, rfl, ?_⟩
    have := q (.bl _) H (Same.refl _) (.bl _)
    simpa [strIn] using this
  all_goals
    obtain ⟨hz, rfl⟩ := ite_some e
    obtain ⟨h1, h2⟩ := Bool.and_eq_true_iff.mp hz
    exact .inr ⟨_, _, ra.rep.dp, rb.rep.dp, h1, h2, q _ H (Same.refl _) (.bl _)⟩
/-! tuple(s), list(s), s.index -/
def cTuple : List D → Option D
  | [.list ds] => some (.tuple ds)
  | [.tuple ds] => some (.tuple ds)
  | _ => none
theorem sc_tuple : SemC X (fun xs H Q => ∃ p ys, xs = [.ref p] ∧ ((SqL X.K H p ys ∧ ∀ l, H l = none → Q (.ref l) (upd H l (.tup ys))) ∨ (SqT X.K H p ys ∧ Q (.ref p) H))) cTuple := fun xs ds d H W Q rs tr e q => by
  cases rs with
  | nil => cases e
  | cons a b =>
    rename_i v vs y ds'
    cases b with
    | cons _ _ => cases y <;> cases e
    | nil =>
      cases y <;> first | (cases e; done) | skip
      · cases e
        obtain ⟨p, ys, rfl, h1, r⟩ := a.lstI
        exact ⟨p, ys, rfl, .inl ⟨.inl h1, fun l hl => let n := new_tup tr hl r; q _ _ n.1 n.2⟩⟩
      · cases e
        obtain ⟨p, ys, rfl, h1, r⟩ := a.tupI
        exact ⟨p, ys, rfl, .inr ⟨h1, q _ H (Same.refl _) a.pure⟩⟩
def cList : List D → Option (List D)
  | [.list ds] => some ds
  | [.tuple ds] => some ds
  | _ => none
theorem sc_list : SemL X (fun xs H Q => ∃ p ys, xs = [.ref p] ∧ (SqL X.K H p ys ∨ SqT X.K H p ys) ∧ ∀ l, H l = none → Q (.ref l) (upd H l (.lst ys))) cList := fun xs ds es H W Q rs tr e q => by
  cases rs with
  | nil => cases e
  | cons a b =>
    rename_i v vs y ds'
    cases b with
    | cons _ _ => cases y <;> cases e
    | nil =>
      cases y <;> first | (cases e; done) | skip
      · cases e
        obtain ⟨p, ys, rfl, h1, r⟩ := a.lstI
        exact ⟨p, ys, rfl, .inl (.inl h1), fun l hl => q _ H l (Same.refl _) hl r⟩
      · cases e
        obtain ⟨p, ys, rfl, h1, r⟩ := a.tupI
        exact ⟨p, ys, rfl, .inr h1, fun l hl => q _ H l (Same.refl _) hl r⟩
def mIndexS : D → List D → Option D := fun c ds => match c, ds with
  | .str a, [.str b] => match Builtin.Str.occurrences a b 0 a.length 1 with
    | i :: _ => some (.int (i : Nat))
    | [] => none
  | _, _ => none
theorem sm_indexS : SemM X (fun x xs H Q => ∃ a b i rest, x = .str a ∧ xs = [.str b] ∧ Builtin.Str.occurrences a b 0 a.length 1 = i :: rest ∧ Q (.int (i : Nat)) H) mIndexS := fun x c xs ds d H W Q rc rx tr e q => by
  cases c <;> first | (cases e; done) | skip
  rename_i a
  cases rx with
  | nil => cases e
  | cons r1 r2 =>
    rename_i v vs y ds'
    cases r2 with
    | cons _ _ => cases y <;> cases e
    | nil =>
      cases y <;> first | (cases e; done) | skip
      rename_i b
      unfold mIndexS at e
      simp only at e
      split at e
      · rename_i i rest ho
        cases e
        rw [rc.strI, r1.strI]
        exact ⟨a, b, i, rest, rfl, rfl, ho, q _ H (Same.refl _) (.int _)⟩
      · cases e
/-! is True, is False -/
def dIsB : D → D → Option D
  | .bool a, .bool b => some (.bool (decide (a = b)))
  | .int _, .bool _ => some (.bool false)
  | .none, .bool _ => some (.bool false)
  | _, _ => none
def dNotB : D → D → Option D
  | .bool a, .bool b => some (.bool (!decide (a = b)))
  | .int _, .bool _ => some (.bool true)
  | .none, .bool _ => some (.bool true)
  | _, _ => none
def flB : V → Bool
  | .bl _ => true
  | .int _ => true
  | .non => true
  | _ => false
theorem op_isF : OpR X (compareOp .Is) (fun x y H Q => ∃ b, y = .bl b ∧ flB x = true ∧ Q (.bl (decide (x = .bl b))) H) := by
  intro pins s σ H x y v u Q I rx ry h
  obtain ⟨b, rfl, hf, q⟩ := h
  cases (show u = Value.bool b from ry)
  cases x <;> first | (cases hf; done) | skip
  · cases (show v = Value.none from rx)
    exact wpAny_is_other rfl (fun z => nomatch z) ⟨.bl false, H, I, rfl, by simpa using q⟩
  · rename_i a
    cases (show v = Value.bool a from rx)
    by_cases e : a = b
    · subst e
      exact wpAny_is_self rfl ⟨.bl true, H, I, rfl, by simpa using q⟩
    · exact wpAny_is_other rfl (fun z => e (Value.bool.inj z)) ⟨.bl false, H, I, rfl, by simpa [e] using q⟩
  · obtain ⟨t, rfl⟩ := rx
    exact wpAny_is_other rfl (fun z => nomatch z) ⟨.bl false, H, I, rfl, by simpa using q⟩
theorem op_notF : OpR X (compareOp .IsNot) (fun x y H Q => ∃ b, y = .bl b ∧ flB x = true ∧ Q (.bl (!decide (x = .bl b))) H) := by
  intro pins s σ H x y v u Q I rx ry h
  obtain ⟨b, rfl, hf, q⟩ := h
  cases (show u = Value.bool b from ry)
  cases x <;> first | (cases hf; done) | skip
  · cases (show v = Value.none from rx)
    exact wpAny_isNot_other rfl (fun z => nomatch z) ⟨.bl true, H, I, rfl, by simpa using q⟩
  · rename_i a
    cases (show v = Value.bool a from rx)
    by_cases e : a = b
    · subst e
      exact wpAny_isNot_self rfl ⟨.bl false, H, I, rfl, by simpa using q⟩
    · exact wpAny_isNot_other rfl (fun z => e (Value.bool.inj z)) ⟨.bl true, H, I, rfl, by simpa [e] using q⟩
  · obtain ⟨t, rfl⟩ := rx
    exact wpAny_isNot_other rfl (fun z => nomatch z) ⟨.bl true, H, I, rfl, by simpa using q⟩
theorem sr_isB : SemR X (fun x y H Q => ∃ b, y = .bl b ∧ flB x = true ∧ Q (.bl (decide (x = .bl b))) H) dIsB := fun x y a b d H W Q ra rb tr e q => by
  cases b <;> first | (cases a <;> cases e; done) | skip
  cases a <;> first | (cases e; done) | skip
  · cases e
    rw [ra.nonI, rb.blI]
    exact ⟨_, rfl, rfl, by simpa using q _ H (Same.refl _) (.bl _)⟩
  · cases e
    rw [ra.blI, rb.blI]
    exact ⟨_, rfl, rfl, by simpa using q _ H (Same.refl _) (.bl _)⟩
  · cases e
    rw [ra.intI, rb.blI]
    exact ⟨_, rfl, rfl, by simpa using q _ H (Same.refl _) (.bl _)⟩
theorem sr_notB : SemR X (fun x y H Q => ∃ b, y = .bl b ∧ flB x = true ∧ Q (.bl (!decide (x = .bl b))) H) dNotB := fun x y a b d H W Q ra rb tr e q => by
  cases b <;> first | (cases a <;> cases e; done) | skip
  cases a <;> first | (cases e; done) | skip
  · cases e
    rw [ra.nonI, rb.blI]
    exact ⟨_, rfl, rfl, by simpa using q _ H (Same.refl _) (.bl _)⟩
  · cases e
    rw [ra.blI, rb.blI]
    exact ⟨_, rfl, rfl, by simpa using q _ H (Same.refl _) (.bl _)⟩
  · cases e
    rw [ra.intI, rb.blI]
    exact ⟨_, rfl, rfl, by simpa using q _ H (Same.refl _) (.bl _)⟩
end
/-! isinstance(x, T), T a built-in type -/
def tyN : D → Option String
  | .none => some "NoneType"
  | .bool _ => some "bool"
  | .int _ => some "int"
  | .str _ => some "str"
  | _ => none
def instT (T : String) (d : D) : Option Bool := (tyN d).bind fun a => L2.kitB a T
def eInst (T : String) (f : Rho → R Opd) : Rho → R D := fun r => (f r).bind fun o r1 => .ofO (((o.get r1).bind (instT T)).map .bool) r1
section
variable {X : Cx} {W : WX} {ms : Ms}
theorem ce_inst {e : Expr} {f : Rho → R Opd} {T : String} {y : Str} {p p2 pos : Pos} (he : CO X W ms e f) (hb : X.mg "isinstance" = none) (hY : X.mg y = none) (hT : bootBuiltins y = some (.type T)) (hg : Gl X "isinstance" := by rfl) (hgy : Gl X y := by rfl) (hny : y ≠ "__name__" := by decide) (hdy : (y == ("__debug__" : Str)) = false := by decide)
    (hse : starEach [e, .Name y p2] X.env = (false, eval e X.env) :: starEach [.Name y p2] X.env := by rfl) (hpl : (backTo pos (starEach [.Name y p2] X.env)).any (·.1) = false := by rfl)
    (hs0 : ∀ q, starEach [e, .Name y p2] q = (false, eval e q) :: starEach [.Name y p2] q := by exact fun _ => rfl) :
    CE X W ms (.Call (.Name "isinstance" p) [e, .Name y p2] [] pos) (eInst T f) := by
  have hA : PA X [e, .Name y p2] (tCons (tO X W ms f) (tCons (tC (.ty T)) tNil)) := pa_cons he (pa_cons (pe_bltn hgy hY hT rfl hny hdy) pa_nil) hse
  refine (pe_callB call_isi hg hb (by rfl) hA (by decide) (by decide) hse hpl).weak fun σ H Q ⟨r, O, G, R, h⟩ => ?_
  unfold eInst at h
  rw [on_bind] at h
  refine tO_step R h fun o r1 v H1 O1 h1 R1 E1 p1 => ?_
  obtain ⟨d, e, h1⟩ := on_ofO h1
  obtain ⟨b, e0, rfl⟩ := Option.map_eq_some_iff.mp e
  obtain ⟨x, ex, e2⟩ := bind_some e0
  have ra := p1.get R1 ex
  have q := h1 (.bl b) H1 O1 R1 E1 (.bl b)
  unfold instT at e2
  obtain ⟨a, ea, e3⟩ := bind_some e2
  refine ⟨v, .ty T, .type a, .type T, b, rfl, .ty T, .base ?_, kit_ty e3, q⟩
  cases x <;> first | (cases ea; done) | skip
  · cases ea; rw [ra.nonI]; exact .non
  · cases ea; rw [ra.blI]; exact .bl _
  · cases ea; rw [ra.intI]; exact .int _
  · cases ea; rw [ra.strI]; exact .str _
/-! i in range(n) -/
theorem cr_range1 : CallR X (.type "range") (fun vs H Q => ∃ j, vs = [V.int j] ∧ ∀ p, H p = none → Q (.ref p) (upd H p (.rng 0 j))) := by
  intro pins s σ H vs us Q I r h
  obtain ⟨j, rfl, q⟩ := h
  obtain ⟨u1, rfl, rj⟩ := vals1 r
  obtain ⟨u, rfl⟩ := rj
  refine call_range_1 ⟨.ref s.heap.objs.size, upd H s.heap.objs.size (.rng 0 j), I.laid (t' := s.toks + 1 + 1) (fun b o e => Heap.get?_push_of_some _ e) (Nat.le_refl _) ?_, rfl, q _ (I.hok.fresh (Nat.le_refl _))⟩
  exact ⟨_, _, _, Heap.get?_push_size _ rfl⟩
def eInRng (f : Rho → R Opd) (as : Rho → R (List Opd)) : Rho → R D := fun r => (f r).bind fun o r1 => (as r1).bind fun os r2 => match o.get r2, gets r2 os with
  | some (.int i), some [.int j] => .ok (.bool (decide (0 ≤ i ∧ i < j))) r2
  | _, _ => .bad
theorem ce_inRng {a e : Expr} {f : Rho → R Opd} {as : Rho → R (List Opd)} {p p2 pos : Pos} (ha : CO X W ms a f) (hb : CA X W ms [e] as) (hm : X.mg "range" = none) (hg : Gl X "range" := by rfl)
    (hse : starEach [e] X.env = (false, eval e X.env) :: starEach [] X.env := by rfl) : CE X W ms (.Compare a [.In] [.Call (.Name "range" p) [e] [] p2] pos) (eInRng f as) := by
  have hr : PE X (.Call (.Name "range" p) [e] [] p2) (tCB (fun vs H Q => ∃ j, vs = [V.int j] ∧ ∀ p, H p = none → Q (.ref p) (upd H p (.rng 0 j))) (tA X W ms as)) := pe_callTy cr_range1 hg hm (by rfl) hb (by decide) (by decide) hse (by rfl)
  refine (pe_cmpR op_in_rng ha hr (by rfl)).weak fun σ H Q ⟨r, O, G, R, h⟩ => ?_
  unfold eInRng at h
  rw [on_bind] at h
  refine tO_step R h fun o r1 v H1 O1 h1 R1 E1 p1 => ?_
  rw [on_bind] at h1
  refine tA_step R1 (bxm E1 h1) fun os r2 vs H2 O2 h2 R2 E2 p2 => ?_
  split at h2
  · rename_i i j e1 e2
    have rx := (p1.mono E2.sm).get R2 e1
    have ry := p2.gets R2 e2
    cases ry with
    | cons ry rn =>
      cases rn
      rw [ry.intI, rx.intI]
      refine ⟨j, rfl, fun p hp => ⟨i, p, 0, j, rfl, rfl, upd_same, ?_⟩⟩
      have sm : Same H2 (upd H2 p (.rng 0 j)) := fun b u e => by rw [upd_ne (ne_of_none e hp)]; exact e
      exact h2 _ _ O2 (R2.same sm) (E1.trans (E2.trans (.same sm R2.tr))) (.bl _)
  · exact False.elim h2
end
theorem bt_tuple : bootBuiltins ("tuple" : Str) = some (.type "tuple") := by rfl
theorem bt_list : bootBuiltins ("list" : Str) = some (.type "list") := by rfl
theorem units65 {k : Nat} {A : Around} (r : Room k A) : A.units + 65 < cLine := by have := r.un; omega
/-! facts of the classes -/
theorem ec_of {K : PySem.W.Frag} {h : Heap} {mg : Str → Option Value} {x : Str} (X : K.In h) (G : h.Ns mainGlobals mg) (c1 : (He.Fa.glo x).ok K = true) (c2 : (He.Fa.exc x).ok K = true) : Ec K mg x :=
  let e := He.exc_ok c2
  ⟨He.glo_ok X G c1, e.1, e.2.1, e.2.2.1, e.2.2.2⟩
def excCB (x : Str) (K : PySem.W.Frag) : Bool :=
  He.eqO (PySem.W.findIn K (.ref (He.ga K x)) "__getattribute__") (some (some (.builtin "BaseException.__getattribute__"))) && (He.eqO (PySem.W.findIn K (.ref (He.ga K x)) "__getattr__") (some none) && (decide (PySem.W.subIn K (.ref (He.ga K x)) (.type "BaseException") = some true) && (PySem.W.hasDictIn K (He.ga K x) &&
  (He.eqO (PySem.W.findIn K (.ref (He.ga K x)) "__class__") (some (some (.builtin "object.__class__"))) && (He.eqO (PySem.W.specialIn K (.builtin "object.__class__") "__get__") (some (some (.builtin "getset_descriptor.__get__"))) && (decide (PySem.W.takesIn K (.builtin "object.__class__") = some true) && decide (PySem.W.mroIn K (He.ga K x) (.type "object") = some true)))))))
theorem excC_of {K : PySem.W.Frag} {x : Str} (c : excCB x K = true) : ExcC K (He.ga K x) := by
  unfold excCB at c
  simp only [Bool.and_eq_true] at c
  obtain ⟨c1, c2, c3, c4, c5, c6, c7, c8⟩ := c
  exact ⟨He.eqO_ok c1, He.eqO_ok c2, of_decide_eq_true c3, c4, He.eqO_ok c5, He.eqO_ok c6, of_decide_eq_true c7, of_decide_eq_true c8⟩
def kitCB (x y : Str) (b : Bool) (K : PySem.W.Frag) : Bool := decide (PySem.W.kitOne K (.ref (He.ga K x)) (.ref (He.ga K y)) = some b)
theorem kit_of' {K : PySem.W.Frag} {x y : Str} {b : Bool} (c : kitCB x y b K = true) : PySem.W.kitOne K (.ref (He.ga K x)) (.ref (He.ga K y)) = some b := of_decide_eq_true c
section
variable {w : World} {K : PySem.W.Frag} {mg : Str → Option Value} {y : Value} {Y : Addr} {tab : List (Str × Bool)} {c : Str} {b : Bool} {D : Addr}
theorem lookup_cons {d : Str} {b' : Bool} (h : ((c, b) :: tab).lookup d = some b') : (d = c ∧ b' = b) ∨ tab.lookup d = some b' := by
  rw [List.lookup_cons] at h
  split at h
  · rename_i e
    exact .inl ⟨eq_of_beq e, (Option.some.inj h).symm⟩
  · exact .inr h
theorem tabOk_nil : TabOk K mg y [] := fun _ _ h => by cases h
theorem tabOk_cons (g : mg c = some (.ref D)) (m : PySem.W.exmOne K (.ref D) y = some b) (t : TabOk K mg y tab) : TabOk K mg y ((c, b) :: tab) := fun d b' h => by
  rcases lookup_cons h with ⟨rfl, rfl⟩ | h
  · exact ⟨D, g, m⟩
  · exact t d b' h
theorem isOk_nil : isTab K mg Y [] := fun _ _ h => by cases h
theorem isOk_cons (g : mg c = some (.ref D)) (m : PySem.W.kitOne K (.ref D) (.ref Y) = some b) (x : ExcC K D) (t : isTab K mg Y tab) : isTab K mg Y ((c, b) :: tab) := fun d b' h => by
  rcases lookup_cons h with ⟨rfl, rfl⟩ | h
  · exact ⟨D, g, m, x⟩
  · exact t d b' h
end
end DL
end

section
set_option maxHeartbeats 1000000
namespace DL
open PySem PySem.Spec PyProof.Rows L2
/-! the empty tuple, repeated -/
theorem tuple_mul0 (l : Addr) (n : Nat) (sl : Array (Option Value)) (dd : Option Addr) (x : Int) (u : Tok) (c0 : (decide (x < -(2 ^ 63)) || decide (x ≥ 2 ^ 63)) = false) :
    Meets (Builtin.«tuple.__mul__» ⟨[.ref l, .int x u], []⟩) (fun _ R s => s.heap.get? l = some { cls := .type "tuple", dict := dd, data := .seq #[] n, slots := sl } ∧ R (.ok (.ret (Value.ref l))) s) :=
  .of_wp fun prog w A R s h => by
    obtain ⟨hp, g, d, tk, os⟩ := s
    obtain ⟨hl, h⟩ := h
    have f1 := AutoSeq1.idx_int
    wp_walk using wpAny_loadPart' hl
    refine wpAny_ite_false (decide_eq_false (by rw [c0]; exact Bool.false_ne_true)) ?_
    wp_walk using wpAny_loadPart' hl
    exact ⟨_, rfl, h⟩
section
variable {X : Cx}
def rRep0 (K : PySem.W.Frag) : R2 := fun x y H Q => ∃ l k, x = .ref l ∧ y = .int k ∧ SqT K H l [] ∧ 2 ≤ k ∧ k ≤ 1000 ∧ Q (.ref l) H
theorem op_rep0 : OpR X (binaryOp .Mult) (rRep0 X.K) := by
  intro pins s σ H x y v u Q I rx ry h
  obtain ⟨l, k, rfl, rfl, hT, h1, h2, q⟩ := h
  cases rx
  obtain ⟨t, rfl⟩ := ry
  obtain ⟨its, r, ⟨⟨cls, dd, data, sl⟩, ho, hc, n, hd⟩, hs⟩ := I.tuple hT
  cases r
  simp only at hc hd
  subst hc hd
  have c0 : (decide (k < -(2 ^ 63)) || decide (k ≥ 2 ^ 63)) = false := by
    rw [decide_eq_false (by omega), decide_eq_false (by omega)] <;> rfl
  exact wpAny_binaryOp_repeat_ref (T := "tuple") (U := "int") (by decide) ⟨_, ho, rfl⟩ (fun s' => typeIs_int s' k t) noFill_tuple_mul F.fills_int_mul F.slot_int_rmul repeat_tuple F.slot_int_index.lookup
    (call_meets F.slot_int_rmul (typeIs_int s k t) F.entry_int_rmul (F.args_int_rmul_2 _ _) (int_rmul_tuple k t l #[] n dd sl)
      ⟨ho, rfl, ⟨_, ho, rfl⟩, call_meets F.slot_tuple_mul ⟨_, ho, rfl⟩ F.entry_tuple_mul (F.args_tuple_mul_2 _ _) (tuple_mul0 l n sl dd k t c0) ⟨ho, ⟨.ref l, H, I, rfl, q⟩⟩⟩)
def dMul3 : D → D → Option D
  | .tuple xs, .int k => if (decide (2 ≤ k) && decide (k ≤ 1000) && decide (xs.length ≤ 1000)) = true then some (.tuple (List.replicate k.toNat xs).flatten) else none
  | x, y => dMul x y
theorem or_mul3 : OpR X (binaryOp .Mult) (fun x y H Q => (rMul x y H Q ∨ rRepT X.K x y H Q) ∨ rRep0 X.K x y H Q) := or_mul2.or op_rep0
theorem flat_nil (k : Nat) : (List.replicate k ([] : List D)).flatten = [] := by
  induction k with
  | zero => rfl
  | succ k ih => rw [List.replicate_succ, List.flatten_cons, ih] <;> rfl
theorem sr_mul3 : SemR X (fun x y H Q => (rMul x y H Q ∨ rRepT X.K x y H Q) ∨ rRep0 X.K x y H Q) dMul3 := fun x y a b d H W Q ra rb tr e q => by
  by_cases h : ∃ as k, a = .tuple as ∧ b = .int k
  · obtain ⟨as, k, rfl, rfl⟩ := h
    obtain ⟨hz, rfl⟩ := ite_some e
    by_cases h0 : as = []
    · subst h0
      simp only [Bool.and_eq_true, decide_eq_true_eq] at hz
      obtain ⟨⟨h2, h3⟩, h4⟩ := hz
      have ra' := ra.pure
      obtain ⟨p, xs, rfl, hx, r1⟩ := ra.tupI
      cases r1
      rw [rb.intI]
      rw [flat_nil] at q
      exact .inr ⟨p, k, rfl, rfl, hx, h2, h3, q _ H (Same.refl _) ra'⟩
    · refine .inl (sr_mul2 x y _ _ _ H W Q ra rb tr ?_ q)
      have hne : as.isEmpty = false := by cases as <;> first | rfl | exact absurd rfl h0
      show (if (!as.isEmpty && decide (2 ≤ k) && decide (k ≤ 1000) && decide (as.length ≤ 1000)) = true then some _ else none) = _
      rw [hne, if_pos (by rw [Bool.not_false, Bool.true_and]; exact hz)]
  · have e' : dMul a b = some d := by
      unfold dMul3 at e
      split at e
      · exact absurd ⟨_, _, rfl, rfl⟩ h
      · exact e
    exact .inl (.inl (sr_mul x y a b d H W Q ra rb tr e' q))
end
end DL
end

section
set_option maxHeartbeats 1000000
namespace DL
open PySem PySem.Spec PyProof.Rows L2
/-! ## a def that is told the exception which the suite holds -/
def O0 : Own := fun _ => []
/-- p's object is of the class that c names -/
structure OfC (mg : Str → Option Value) (p : Addr × Obj) (c : Str) (D : Addr) : Prop where
  g : mg c = some (.ref D)
  z : Zc (.ref D) none p.2
  v : ∃ vs, p.2.data = .fields vs
def spE (K : PySem.W.Frag) (mg : Str → Option Value) (F : Str → Option D) (p : Addr × Obj) : Sp := fun vs H Q _ => ∃ (c : Str) (C : Addr) (G : Gh) (d : D), vs = [.ref p.1] ∧ OfC mg p c C ∧ (∀ a, G a → H a ≠ none) ∧ F c = some d ∧
  ∀ v H', Ext H O0 G H' O0 G → Rep K (msk H' (Ow O0 G)) v d → Q v H'
structure FnE (P : Program) (w : World) (K : PySem.W.Frag) (mg : Str → Option Value) (base : Heap) (k : Nat) (f : Addr) (fd : FuncData) (ps : List Str) (sp : Addr × Obj → Sp) : Prop where
  len : ∀ p vs H Q E, sp p vs H Q E → vs.length = ps.length
  run : ∀ (p : Addr × Obj) (A : Around) (outer : List Env) (s : Shared) (H : Hp) (args : Args) (us : List Value) (vs : List V) (Q : VK) (E : XK), L2H.RoomH k A → A.guards = some [] → L2H.PinOk outer H s p → Env0 P w K mg base A outer s H → BindsTo s fd args (ps.zip us) → Vals vs us →
    sp p vs H Q E → codeAny (model P w) A (.call (.ref f) args) (CR (L2.CX P w) outer P w H s Q E) s
theorem fnE_of {P : Program} {w : World} {K : PySem.W.Frag} {mg : Str → Option Value} {base : Heap} {k : Nat} {f : Addr} {name qual : Str} {params : Arguments} {body : List Stmt} {scope : Scope} {dV kV doc pm cdv ct oc : Value} {an od : Option Addr}
    {osl : Array (Option Value)} {N ps : List Str} {sp : Addr × Obj → Sp} (lk : K.lookup f = some ⟨oc, od, .func (PySem.W.fnOf name qual params body scope dV kV doc pm an cdv ct), osl⟩) (hcd : PySem.W.codeIn K cdv qual = true) (S : FnScope N ps scope)
    (len : ∀ p vs H Q E, sp p vs H Q E → vs.length = ps.length)
    (hbody : ∀ (p : Addr × Obj) (A : Around) (outer : List Env) (s : Shared) (H : Hp) (vs : List V) (Q : VK) (E : XK), L2H.RoomH k (A.deeper (envOfC qual scope s.heap.objs.size f cdv)) → (A.deeper (envOfC qual scope s.heap.objs.size f cdv)).guards = some [] → sp p vs H Q E →
      ∃ t, PSs (L2H.cxH (L2.CX P w) P w K mg base N qual scope f cdv A outer s H E p) body t ∧ t { nx := fun _ H' => Q .non H', rt := Q } (start N vs) H) :
    FnE P w K mg base (k + 1) f (PySem.W.fnOf name qual params body scope dV kV doc pm an cdv ct) ps sp := by
  refine ⟨len, fun p A outer s H args us vs Q E hr hgd hpin e0 hb r hsp => ?_⟩
  have hl := len _ _ _ _ _ hsp
  have KX : K.In s.heap := e0.mod.kin.keeps fun b o e => (e0.bs b o e).1
  have lim : s.heap.NoLimit := e0.mod.nolimit.keeps fun b o e => (e0.bs b o e).1
  have hkind : ∀ y ∈ ps.zip us, scope.names.lookup y.1 = some .local ∨ (scope.names.lookup y.1 = some .cell ∧ ((cellsFrom (s.heap.objs.size + 1) scope.names []).lookup y.1).isSome = true) := fun ⟨n, v⟩ hy => by
    rcases S.par n (List.of_mem_zip hy).1 with q | q
    · exact .inl q
    · exact .inr ⟨q, PySem.W.cellsFrom_some _ _ _ (.inl q)⟩
  refine codeAny_call_function hr.depth (KX _ _ lk) rfl S.co S.gen rfl (PySem.W.codeRec_of KX hcd) (hb _ _ _ _ ?_)
  refine wpAny_newFunctionEnv_cells S.kind hkind fun env he s1 x => ?_
  subst he
  refine ⟨lim.keeps x.toInCall.keep, codeAny_func ?_⟩
  obtain ⟨t, ht, hq⟩ := hbody p A outer s H vs Q E (hr.deeper _) hgd hsp
  have I : Inv (L2H.cxH (L2.CX P w) P w K mg base N qual scope f cdv A outer s H E p) [] (start N vs) H s1 := L2H.inv_startH S hpin e0 hl r x
  refine wpAny_mono (ht.run [] s1 (start N vs) H _ I hq) (fun fl s' hs => ?_) fun e s' hs => hs
  have fin : ∀ {σ' : L2.St} {H' : Hp} {v : V} {u : Value}, Inv (L2H.cxH (L2.CX P w) P w K mg base N qual scope f cdv A outer s H E p) [] σ' H' s' → RelV v u → Q v H' → L2.CE outer P w H s Q u s' :=
    fun {σ' H' v u} J rv q => ⟨v, H', J.os, J.bare, J.base, J.hok, rv, q⟩
  cases fl with
  | ret u =>
    obtain ⟨v, σ', H', J, rv, q⟩ := hs
    exact fin J rv q
  | next =>
    obtain ⟨σ', H', J, q⟩ := hs
    exact fin (v := V.non) (u := Value.none) J rfl q
  | brk =>
    obtain ⟨_, _, _, q⟩ := hs
    exact False.elim q
  | cont =>
    obtain ⟨_, _, _, q⟩ := hs
    exact False.elim q
def bodyE (m : Nat) (g : Str → Rho → SR) : Str → Option D := fun c => match g c (some (excV c) :: List.replicate m none) with
  | .rt d _ => some d
  | .nx _ => some .none
  | _ => none
theorem Rel.startE {w : World} {K : PySem.W.Frag} {H : Hp} {G : Gh} {ms : Ms} {N : List Str} {a : Addr} {c : Str} {m : Nat} (tr : ∀ b, G b → H b ≠ none) (hN : N.length - 1 = m) : Rel w K (msX ms 0 a) (L2.start N [.ref a]) H (some (excV c) :: List.replicate m none) O0 G := by
  refine ⟨?_, fun i d e => ?_, fun i _ => rfl, tr, (fun _ _ _ h => by cases h), (fun _ _ h => by cases h)⟩
  · unfold L2.start
    rw [List.length_append, List.length_map, List.length_replicate, List.length_cons, List.length_replicate]
    show m + 1 = 1 + (N.length - 1)
    omega
  · cases i with
    | zero =>
      cases e
      exact ⟨.ref a, rfl, by rw [msX_same]; exact .exn⟩
    | succ i =>
      rw [List.getElem?_cons_succ, List.getElem?_replicate] at e
      split at e <;> cases e
theorem fnE_body {P : Program} {w : World} {K : PySem.W.Frag} {mg : Str → Option Value} {base : Heap} {k : Nat} {f : Addr} {fd : FuncData} {x qual : Str} {params : Arguments} {body : List Stmt} {scope : Scope} {dvs : List V} {kws : List (Str × V)}
    {N : List Str} {y : Str} {ms : Ms} {m : Nat} {g : Str → Rho → SR} (FD : FunD K x qual params body scope dvs kws f fd) (S : FnScope N [y] scope) (hm : N.length - 1 = m)
    (hb : ∀ (p : Addr × Obj) (c : Str) (C : Addr) (cdv : Value) (A : Around) (outer : List Env) (s : Shared) (H : Hp) (E : XK), OfC mg p c C → L2H.RoomH k (A.deeper (envOfC qual scope s.heap.objs.size f cdv)) → (A.deeper (envOfC qual scope s.heap.objs.size f cdv)).guards = some [] →
      CSs (L2H.cxH (L2.CX P w) P w K mg base N qual scope f cdv A outer s H E p) W0 (msX ms 0 p.1) .pur body (g c)) :
    FnE P w K mg base (k + 1) f fd [y] (spE K mg (bodyE m g)) := by
  obtain ⟨oc, od, dV, kV, doc, pmv, an, cdv, ct, osl, rfl, lk, hcd, _, _⟩ := FD.ex
  refine fnE_of lk hcd S (fun p vs H Q E ⟨c, C, G, d, h1, _⟩ => by rw [h1] <;> rfl) fun p A outer s H vs Q E hr hgd ⟨c, C, G, d, hv, oc, tr, hF, h⟩ => ?_
  subst hv
  refine ⟨_, hb p c C cdv A outer s H E oc hr hgd, some (excV c) :: List.replicate m none, O0, G, Rel.startE tr hm, ?_⟩
  unfold bodyE at hF
  have less : ∀ {O' : Own} (a : Addr), Ow O0 G a → Ow O' G a := fun a z => z.elim .inl (fun ⟨_, h⟩ => by cases h)
  cases e : g c (some (excV c) :: List.replicate m none) with
  | rt d' r =>
    rw [e] at hF
    cases hF
    intro v σ' H' O' B R' E' n' F' rp
    obtain ⟨rfl, rp⟩ := rp.purI
    rw [ga_nil] at rp E'
    exact h v H' ⟨E'.sm.trans (msk_less less), E'.gh⟩ (rp.mono (msk_less less))
  | nx r =>
    rw [e] at hF
    cases hF
    intro σ' H' O' R' E' F'
    exact h .non H' ⟨E'.sm.trans (msk_less less), E'.gh⟩ .non
  | _ => rw [e] at hF; cases hF
/-- the def x of the module keeps its promise about exceptions -/
def OkE (P : Program) (w : World) (K : PySem.W.Frag) (mg : Str → Option Value) (base : Heap) (k : Nat) (x y : Str) (F : Str → Option D) : Prop :=
  ∃ fd, mg x = some (.ref (He.ga K x)) ∧ PySem.W.keepIn K (.ref (He.ga K x)) = true ∧ Binds K fd [y] [] ∧ FnE P w K mg base k (He.ga K x) fd [y] (spE K mg F)
theorem okE_of {P : Program} {w : World} {K : PySem.W.Frag} {mg : Str → Option Value} {base : Heap} {k : Nat} {x y : Str} {st : Stmt} {N : List Str} {ms : Ms} {m : Nat} {g : Str → Rho → SR} (a : At K mg x st) (S : FnScope N [y] (defScope st))
    (hbind : ∀ (kV doc pm : Value) (an : Option Addr) (cdv ct : Value) (us : List Value), us.length = [y].length → bindArgs (PySem.W.fnOf x x (defArgs st) (defBody st) (defScope st) .none kV doc pm an cdv ct) ⟨us, []⟩ = pure ([y].zip us))
    (hm : N.length - 1 = m)
    (hb : ∀ (p : Addr × Obj) (c : Str) (C : Addr) (cdv : Value) (A : Around) (outer : List Env) (s : Shared) (H : Hp) (E : XK), OfC mg p c C → L2H.RoomH k (A.deeper (envOfC x (defScope st) s.heap.objs.size (He.ga K x) cdv)) → (A.deeper (envOfC x (defScope st) s.heap.objs.size (He.ga K x) cdv)).guards = some [] →
      CSs (L2H.cxH (L2.CX P w) P w K mg base N x (defScope st) (He.ga K x) cdv A outer s H E p) W0 (msX ms 0 p.1) .pur (defBody st) (g c)) :
    OkE P w K mg base (k + 1) x y (bodyE m g) := by
  obtain ⟨hx, fd, F⟩ := a
  exact ⟨fd, hx, F.kp, binds_of F hbind, fnE_body F S hm hb⟩
def eFnE (i : Nat) (o : Option D) : Rho → R D := fun r => match (r[i]?).join with
  | some (.dict _) => .ofO o r
  | _ => .bad
section
variable {X : Cx} {W : WX} {ms : Ms}
theorem ce_callE {a C : Addr} {oe : Obj} {pn : List (Addr × Obj)} {k j i : Nat} {c x y n : Str} {F : Str → Option D} {p p1 pos : Pos} (h : OkE X.prog X.w X.K X.mg X.base j x y F) (hr : Room k X.A) (hgd : X.A.guards = some []) (hj : j ≤ k) (hD : X.mg c = some (.ref C)) (hz : Zc (.ref C) none oe) (hv : ∃ vs, oe.data = .fields vs)
    (hsh : (ms i).sh = .exn a) (hi : X.N[i]? = some n := by rfl) (hvis : Vis X.env.scope n := by first | exact .inl rfl | exact .inr (.inl rfl)) (hg : Gl X x := by rfl) (hdb : (x == ("__debug__" : Str)) = false := by decide) (hdn : (n == ("__debug__" : Str)) = false := by decide) (hcn : (n == ("__classdict__" : Str)) = false := by decide)
    (he : starEach [.Name n p1] X.env = (false, eval (.Name n p1) X.env) :: starEach [] X.env := by rfl) :
    CE (X.suite a ((a, oe) :: pn)) W ms (.Call (.Name x p) [.Name n p1] [] pos) (eFnE i (F c)) := by
  obtain ⟨fd, h1, h2, h3, h4⟩ := h
  refine ⟨fun pins s σ H Q I ⟨r, O, G, R, q⟩ => ?_⟩
  unfold eFnE at q
  have hA : PA (X.suite a ((a, oe) :: pn)) [.Name n p1] (tCons (tVar i) tNil) := pa_cons (pe_var (X := X.suite a ((a, oe) :: pn)) hi hvis hdn hcn) pa_nil
  cases e : (r[i]?).join with
  | none => rw [e] at q; exact False.elim q
  | some d0 =>
    rw [e] at q
    obtain ⟨v, e1, rs⟩ := R.slot i d0 (join_some e)
    rw [hsh] at rs
    obtain ⟨rfl, c', rfl⟩ := rs.exnI
    simp only at q
    obtain ⟨d, eF, q⟩ := on_ofO q
    refine wpAny_Call_Name_kw (ld_glob (X := X.suite a ((a, oe) :: pn)) I hg h1 ?_ hdb)
    refine PySem.W.callWith_K (h₀ := X.base) I.ok.mod.kin h2 (thn (hA.run pos pins s σ H (fun vs H1 => vs = [V.ref a] ∧ H = H1) I ⟨_, e1, rfl, rfl⟩) fun us s1 ⟨vs, H1, I1, rv, ev, eH⟩ => ?_) he (by rfl)
    subst ev
    rw [← eH] at I1
    refine ⟨I1.kIn, ?_⟩
    have P1 := I1.pin (a, oe) (List.mem_append_left _ List.mem_cons_self)
    have hpin : L2H.PinOk X.stack H s1 (a, oe) := ⟨P1.1, P1.2.1, fun hm => (List.mem_cons.mp (I1.stkSub a hm)).elim P1.2.2.1 P1.2.2.2.1, P1.2.2.2.2⟩
    have b := h3 s1 us I1.kIn (by rw [List.append_nil, ← rv.length] <;> rfl)
    rw [List.append_nil] at b
    have rr : L2H.RoomH j (X.A.mark (some (.ref a))) := (L2H.roomH_of (hr.mono hj) : L2H.RoomH j X.A) |> fun z => ⟨z.dp, z.un⟩
    refine wpAny_call (codeAny_mono (h4.run (a, oe) _ _ s1 H ⟨us, []⟩ us _ Q (fun _ _ _ => False) rr hgd hpin I1.env0 b rv ⟨c, C, Ow O G, d, rfl, ⟨hD, hz, hv⟩, R.trO, eF, fun v H' E rp => ?_⟩) fun r' s' hq => ?_)
    · have O0e : Ow O0 (Ow O G) = Ow O G := funext fun b => propext ⟨(fun z => z.elim id (fun ⟨_, w⟩ => by cases w)), fun z => .inl z⟩
      have E1 := E.sm
      rw [O0e] at E1 rp
      have keep : ∀ b, Ow O G b → H' b = H b := fun b z => (E.gh b z).2
      have R' : Rel X.w X.K ms σ H' r O G := ⟨R.len, fun i d e => by
        obtain ⟨v, e1, rs⟩ := R.slot i d e
        exact ⟨v, e1, rs.mono E1 fun b hb o ho => by rw [keep b (.inr ⟨i, hb⟩)]; exact ho⟩, R.emp, fun b g => by rw [keep b (.inl g)]; exact R.tr b g, R.dj, R.dG⟩
      exact q v H' O R' ⟨E1, fun b g => ⟨g, keep b (.inl g)⟩⟩ rp
    · cases r' with
      | error e =>
        obtain ⟨_, _, _, _, _, _, _, _, _, _, _, _, z⟩ := hq
        exact z.elim
      | ok fl =>
        cases fl with
        | ret u => exact I1.after hq
        | next => exact False.elim hq
        | brk => exact False.elim hq
        | cont => exact False.elim hq
/-! isinstance(e, Y), e an exception that is pinned -/
theorem call_isP {a D : Addr} {oe : Obj} (C : ExcC X.K D) (hp : (a, oe) ∈ X.pn) (hz : Zc (.ref D) none oe) (hf : ∃ vs, oe.data = .fields vs) : CallR X (.builtin "isinstance") (rIsE X.K D a) := by
  intro pins s σ H xs us Q I r h
  obtain ⟨c, cv, b, rfl, hcv, e, q⟩ := h
  cases r with
  | cons rx rr =>
    cases rr with
    | cons rt rr =>
      cases rr
      cases rx
      have ec := hcv _ rt
      subst ec
      obtain ⟨hget, _⟩ := I.pin (a, oe) (List.mem_append_left _ hp)
      obtain ⟨vs, hv⟩ := hf
      have J : PySem.W.InstAt s.heap a oe D none := by
        obtain ⟨oc, od, oda, osl⟩ := oe
        obtain ⟨z1, z2⟩ := hz
        dsimp only at z1 z2 hv
        subst z1 z2 hv
        exact ⟨hget, rfl, rfl, trivial⟩
      exact PySem.W.kia_one (PySem.W.handS_kitx_exc C.hg C.hk C.hs C.hd C.ha C.hn C.ht C.hm) I.kIn J e (fun z => nomatch z) fun tk => ⟨.bl b, H, I.kept (t' := tk) fun _ _ z => z, rfl, q⟩
theorem ce_isP {a D Y : Addr} {oe : Obj} {i : Nat} {c n y : Str} {tab : List (Str × Bool)} {p p1 p2 pos : Pos} (hp : (a, oe) ∈ X.pn) (hD : X.mg c = some (.ref D)) (hz : Zc (.ref D) none oe) (hv : ∃ vs, oe.data = .fields vs) (hY : X.mg y = some (.ref Y)) (ht : isTab X.K X.mg Y tab)
    (hb : X.mg "isinstance" = none) (hsh : (ms i).sh = .exn a) (hi : X.N[i]? = some n := by rfl) (hvis : Vis X.env.scope n := by first | exact .inl rfl | exact .inr (.inl rfl)) (hg : Gl X "isinstance" := by rfl) (hgy : Gl X y := by rfl) (hdy : (y == ("__debug__" : Str)) = false := by decide) (hdn : (n == ("__debug__" : Str)) = false := by decide) (hcn : (n == ("__classdict__" : Str)) = false := by decide)
    (he : starEach [.Name n p1, .Name y p2] X.env = (false, eval (.Name n p1) X.env) :: starEach [.Name y p2] X.env := by rfl) (hpl : (backTo pos (starEach [.Name y p2] X.env)).any (·.1) = false := by rfl) :
    CE X W ms (.Call (.Name "isinstance" p) [.Name n p1, .Name y p2] [] pos) (eIsE i c tab) := by
  by_cases hx : ∃ b, tab.lookup c = some b
  · obtain ⟨b, hb1⟩ := hx
    obtain ⟨D', g1, g2, g3⟩ := ht c b hb1
    rw [hD] at g1
    cases g1
    have hA : PA X [.Name n p1, .Name y p2] (tCons (tVar i) (tCons (tC (.ref Y)) tNil)) := pa_cons (pe_var hi hvis hdn hcn) (pa_cons (pe_glob hgy hY rfl hdy) pa_nil)
    refine (pe_callB (call_isP g3 hp hz hv) hg hb (by rfl) hA (by decide) (by decide) he hpl).weak fun σ H Q ⟨r, O, G, R, h⟩ => ?_
    unfold eIsE at h
    cases e : (r[i]?).join with
    | none => rw [e] at h; exact False.elim h
    | some d =>
      rw [e] at h
      obtain ⟨v, e1, rs⟩ := R.slot i d (join_some e)
      rw [hsh] at rs
      obtain ⟨rfl, c', rfl⟩ := rs.exnI
      simp only [hb1, Option.map_some] at h
      exact ⟨.ref a, e1, ⟨.ref Y, .ref Y, b, rfl, fun u q => q, g2, h (.bl b) H O R .refl (.bl b)⟩⟩
  · refine ⟨fun pins s σ H Q I ⟨r, O, G, R, h⟩ => ?_⟩
    unfold eIsE at h
    have hn : tab.lookup c = none := by
      cases e : tab.lookup c with
      | none => rfl
      | some b => exact absurd ⟨b, e⟩ hx
    rw [hn] at h
    exfalso
    cases e : (r[i]?).join with
    | none => rw [e] at h; exact h
    | some d => rw [e] at h; cases d <;> exact h
end
theorem _root_.L2.Room.units65 {k : Nat} {A : Around} (r : Room k A) : A.units + 65 < cLine := by have := r.un; omega
theorem _root_.L2H.RoomH.units65 {k : Nat} {A : Around} (r : L2H.RoomH k A) : A.units + 65 < cLine := by have := r.un; omega
theorem _root_.L2H.RoomH.units {k : Nat} {A : Around} (r : L2H.RoomH k A) : A.units + 64 < cLine := by have := r.un; omega
/-! min, max of two numbers -/
def cMin : List D → Option D
  | [.int i, .int j] => some (.int (if j < i then j else i))
  | _ => none
def cMax : List D → Option D
  | [.int i, .int j] => some (.int (if j > i then j else i))
  | _ => none
theorem two_ints {X : Cx} {H : Hp} {W : Gh} {xs : List V} {ds : List D} (rs : RepBs X.K (msk H W) H xs ds) {i j : Int} (e : ds = [.int i, .int j]) : xs = [.int i, .int j] := by
  subst e
  cases rs with
  | cons a b =>
    cases b with
    | cons b c =>
      cases c
      rw [a.intI, b.intI]
theorem sc_min {X : Cx} : SemC X (fun xs H Q => ∃ i j, xs = [.int i, .int j] ∧ Q (.int (if j < i then j else i)) H) cMin := fun xs ds d H W Q rs tr e q => by
  unfold cMin at e
  split at e
  · cases e
    exact ⟨_, _, two_ints rs rfl, q _ H (Same.refl _) (.int _)⟩
  · cases e
theorem sc_max {X : Cx} : SemC X (fun xs H Q => ∃ i j, xs = [.int i, .int j] ∧ Q (.int (if j > i then j else i)) H) cMax := fun xs ds d H W Q rs tr e q => by
  unfold cMax at e
  split at e
  · cases e
    exact ⟨_, _, two_ints rs rfl, q _ H (Same.refl _) (.int _)⟩
  · cases e
theorem bt_min : bootBuiltins ("min" : Str) = some (.builtin "min") := by rfl
theorem bt_max : bootBuiltins ("max" : Str) = some (.builtin "max") := by rfl
/-! list + list -/
def rCatL : R2 := fun x y H Q => ∃ l b xs zs, x = .ref l ∧ y = .ref b ∧ Rd H l (.lst xs) ∧ Rd H b (.lst zs) ∧ xs.length + zs.length ≤ sizeLine ∧ ∀ p, H p = none → Q (.ref p) (upd H p (.lst (xs ++ zs)))
theorem op_catL {X : Cx} : OpR X (binaryOp .Add) rCatL := by
  intro pins s σ H x y v u Q I rx ry h
  obtain ⟨l, b, xs, zs, rfl, rfl, hH, hB, hz, q⟩ := h
  cases rx
  cases ry
  obtain ⟨_, its, n, r, e⟩ := hH.ok I.hok
  obtain ⟨_, its2, n2, r2, e2⟩ := hB.ok I.hok
  have l1 := r.length
  have l2 := r2.length
  refine PySem.P.add_list e e2 ?_ (by rw [List.size_toArray, List.size_toArray]; omega)
  rw [show its.toArray ++ its2.toArray = (its ++ its2).toArray by simp]
  exact ⟨.ref _, _, I.lnew (t' := s.toks) (r.append r2) (by rw [List.length_append]; omega), rfl, q _ I.fresh⟩
def dAdd4 : D → D → Option D
  | .list a, .list b => if a.length + b.length ≤ sizeLine then some (.list (a ++ b)) else none
  | x, y => dAdd2 x y
theorem or_add4 {X : Cx} : OpR X (binaryOp .Add) (fun x y H Q => (rAdd x y H Q ∨ rCatA X.K x y H Q) ∨ rCatL x y H Q) := or_add2.or op_catL
theorem sr_add4 {X : Cx} : SemR X (fun x y H Q => (rAdd x y H Q ∨ rCatA X.K x y H Q) ∨ rCatL x y H Q) dAdd4 := fun x y a b d H W Q ra rb tr e q => by
  by_cases h : ∃ as bs, a = .list as ∧ b = .list bs
  · obtain ⟨as, bs, rfl, rfl⟩ := h
    obtain ⟨hz, rfl⟩ := ite_some e
    obtain ⟨p, xs, rfl, h1, r1⟩ := ra.lstI
    obtain ⟨p', ys, rfl, h2, r2⟩ := rb.lstI
    exact .inr ⟨p, p', xs, ys, rfl, rfl, h1, h2, by rw [r1.len, r2.len]; exact hz, fun l hl => let n := new_lst tr hl (r1.append r2); q _ _ n.1 n.2⟩
  · have e' : dAdd2 a b = some d := by
      unfold dAdd4 at e
      split at e
      · exact absurd ⟨_, _, rfl, rfl⟩ h
      · exact e
    exact .inl (sr_add2 x y a b d H W Q ra rb tr e' q)
/-! a tuple, repeated more often -/
def rRepW (K : PySem.W.Frag) : R2 := fun x y H Q => ∃ l k xs, x = .ref l ∧ y = .int k ∧ SqT K H l xs ∧ xs ≠ [] ∧ 2 ≤ k ∧ k ≤ 10000 ∧ xs.length ≤ 1000 ∧ ∀ p, H p = none → Q (.ref p) (upd H p (.tup (List.replicate k.toNat xs).flatten))
theorem op_repW {X : Cx} : OpR X (binaryOp .Mult) (rRepW X.K) := by
  intro pins s σ H x y v u Q I rx ry h
  obtain ⟨l, k, xs, rfl, rfl, hT, hne, h1, h2, hz, q⟩ := h
  cases rx
  obtain ⟨t, rfl⟩ := ry
  obtain ⟨its, r, ⟨⟨cls, dd, data, sl⟩, ho, hc, n, hd⟩, hs⟩ := I.tuple hT
  simp only at hc hd
  subst hc hd
  have hle : its.length = xs.length := r.length.symm
  have hi : its.toArray.isEmpty = false := by
    cases its with
    | nil => exact absurd (List.eq_nil_of_length_eq_zero hle.symm) hne
    | cons a b => rfl
  have hsz0 : its.toArray.size = xs.length := by rw [List.size_toArray, hle]
  have big : k.toNat * xs.length ≤ 10000 * 1000 := Nat.mul_le_mul (by omega) hz
  have hm : ((its.toArray.size : Nat) : Int) * k ≤ 10000000 := by
    have a1 : ((xs.length : Nat) : Int) * k ≤ 1000 * k := Int.mul_le_mul_of_nonneg_right (by omega) (by omega)
    rw [hsz0]; omega
  have fl : (List.replicate k.toNat its).flatten.length ≤ sizeLine := by
    rw [PyProof.Rows.lm_len_rep_flat, hle, sizeLine_eq]; omega
  have c0 : (decide (k < -(2 ^ 63)) || decide (k ≥ 2 ^ 63)) = false := by rw [decide_eq_false (by omega), decide_eq_false (by omega)] <;> rfl
  have c1 : (its.toArray.isEmpty || k == 1) = false := by rw [hi, Bool.false_or]; exact beq_eq_false_iff_ne.mpr (by omega)
  have c2 : (decide (k ≤ 0) || its.toArray.isEmpty) = false := by rw [hi, Bool.or_false]; exact decide_eq_false (by omega)
  have c4 : Builtin.Tuple.tupleTooMany (((its.toArray.size : Nat) : Int) * k) = false := by
    unfold Builtin.Tuple.tupleTooMany
    rw [sizeLine_eq]; exact decide_eq_false (by omega)
  have mm := tuple_mulW l its.toArray n dd sl k t c0 c1 c2 (by omega) c4 (by rw [size_rep, List.size_toArray]; exact fl)
  refine wpAny_binaryOp_repeat_ref (T := "tuple") (U := "int") (by decide) ⟨_, ho, rfl⟩ (fun s' => typeIs_int s' k t) noFill_tuple_mul F.fills_int_mul F.slot_int_rmul repeat_tuple F.slot_int_index.lookup (call_meets F.slot_int_rmul (typeIs_int s k t) F.entry_int_rmul (F.args_int_rmul_2 _ _) (int_rmul_tuple k t l its.toArray n dd sl) ⟨ho, rfl, ⟨_, ho, rfl⟩, call_meets F.slot_tuple_mul ⟨_, ho, rfl⟩ F.entry_tuple_mul (F.args_tuple_mul_2 _ _) mm ⟨ho, ?_⟩⟩)
  rw [size_rep]
  refine ⟨.ref s.heap.objs.size, _, I.laid (t' := s.toks) (o := .tup (List.replicate k.toNat xs).flatten) (fun _ _ z => Heap.get?_push_of_some _ z) (Nat.le_refl _) ?_, rfl, q _ (I.hok.fresh (Nat.le_refl _))⟩
  exact ⟨by rw [PyProof.Rows.lm_len_rep_flat, sizeLine_eq]; omega, _, r.rep k.toNat, IsTup.new _ _⟩
def dMul5 : D → D → Option D
  | .tuple xs, .int k => if (decide (2 ≤ k) && decide (k ≤ 10000) && decide (xs.length ≤ 1000)) = true then some (.tuple (List.replicate k.toNat xs).flatten) else none
  | x, y => dMul x y
def rRep1 (K : PySem.W.Frag) : R2 := fun x y H Q => ∃ l k, x = .ref l ∧ y = .int k ∧ SqT K H l [] ∧ 2 ≤ k ∧ k ≤ 10000 ∧ Q (.ref l) H
theorem op_rep1 {X : Cx} : OpR X (binaryOp .Mult) (rRep1 X.K) := by
  intro pins s σ H x y v u Q I rx ry h
  obtain ⟨l, k, rfl, rfl, hT, h1, h2, q⟩ := h
  cases rx
  obtain ⟨t, rfl⟩ := ry
  obtain ⟨its, r, ⟨⟨cls, dd, data, sl⟩, ho, hc, n, hd⟩, hs⟩ := I.tuple hT
  cases r
  simp only at hc hd
  subst hc hd
  have c0 : (decide (k < -(2 ^ 63)) || decide (k ≥ 2 ^ 63)) = false := by rw [decide_eq_false (by omega), decide_eq_false (by omega)] <;> rfl
  exact wpAny_binaryOp_repeat_ref (T := "tuple") (U := "int") (by decide) ⟨_, ho, rfl⟩ (fun s' => typeIs_int s' k t) noFill_tuple_mul F.fills_int_mul F.slot_int_rmul repeat_tuple F.slot_int_index.lookup
    (call_meets F.slot_int_rmul (typeIs_int s k t) F.entry_int_rmul (F.args_int_rmul_2 _ _) (int_rmul_tuple k t l #[] n dd sl)
      ⟨ho, rfl, ⟨_, ho, rfl⟩, call_meets F.slot_tuple_mul ⟨_, ho, rfl⟩ F.entry_tuple_mul (F.args_tuple_mul_2 _ _) (tuple_mul0 l n sl dd k t c0) ⟨ho, ⟨.ref l, H, I, rfl, q⟩⟩⟩)
theorem or_mul5 {X : Cx} : OpR X (binaryOp .Mult) (fun x y H Q => (rMul x y H Q ∨ rRepW X.K x y H Q) ∨ rRep1 X.K x y H Q) := (or_mul.or op_repW).or op_rep1
theorem sr_mul5 {X : Cx} : SemR X (fun x y H Q => (rMul x y H Q ∨ rRepW X.K x y H Q) ∨ rRep1 X.K x y H Q) dMul5 := fun x y a b d H W Q ra rb tr e q => by
  by_cases h : ∃ as k, a = .tuple as ∧ b = .int k
  · obtain ⟨as, k, rfl, rfl⟩ := h
    obtain ⟨hz, rfl⟩ := ite_some e
    simp only [Bool.and_eq_true, decide_eq_true_eq] at hz
    obtain ⟨⟨h2, h3⟩, h4⟩ := hz
    have ra' := ra.pure
    obtain ⟨p, xs, rfl, hx, r1⟩ := ra.tupI
    rw [rb.intI]
    by_cases h0 : as = []
    · subst h0
      cases r1
      rw [flat_nil] at q
      exact .inr ⟨p, k, rfl, rfl, hx, h2, h3, q _ H (Same.refl _) ra'⟩
    · refine .inl (.inr ⟨p, k, xs, rfl, rfl, hx, fun z => ?_, h2, h3, by rw [r1.len]; exact h4, fun l hl => let n := new_tup tr hl (r1.rep _); q _ _ n.1 n.2⟩)
      subst z
      cases r1
      exact h0 rfl
  · have e' : dMul a b = some d := by
      unfold dMul5 at e
      split at e
      · exact absurd ⟨_, _, rfl, rfl⟩ h
      · exact e
    exact .inl (.inl (sr_mul x y a b d H W Q ra rb tr e' q))
/-! a pair of names as a target -/
theorem cg_two {X : Cx} {ms : Ms} {K : PySem.W.Frag} (i j : Nat) {x y : Str} {k : Nat} {p1 p2 pos : Pos} (nd : X.N.Nodup) (hc : X.calm = true := by rfl) (hs : (ms i).sh = .pur := by rfl) (hf : (ms i).fx = false := by rfl) (hi : X.N[i]? = some x := by rfl) (hx : Loc X.env.scope x := by first | exact .inl rfl | exact .inr rfl)
    (hfn : X.fn x = true ∨ X.env.scope.names.lookup x = some .local := by first | exact .inl rfl | exact .inr rfl | assumption) (hs' : (ms j).sh = .pur := by rfl) (hf' : (ms j).fx = false := by rfl) (hi' : X.N[j]? = some y := by rfl) (hx' : Loc X.env.scope y := by first | exact .inl rfl | exact .inr rfl)
    (hfn' : X.fn y = true ∨ X.env.scope.names.lookup y = some .local := by first | exact .inl rfl | exact .inr rfl | assumption) (hK : X.K = K := by rfl) : CG X ms (.Tuple [.Name x p1, .Name y p2] k pos) [i, j] (kTup 2 (kCons (kName i) (kCons (kName j) kNil))) (gTup K 2 (gCons (gName i) (gCons (gName j) gNil))) := by
  subst hK
  exact cg_tup hc (cgs_cons (cg_name i nd hs hf hi hx hfn) (cgs_cons (cg_name j nd hs' hf' hi' hx' hfn') cgs_nil))
end DL
end

section
set_option maxHeartbeats 1000000
namespace DL
open PySem PySem.Spec PyProof.Rows L2
/-! a target of several names: of a tuple or a list -/
def kSeq (n : Nat) (l : List D → Rho → Option Rho) : D → Rho → Option Rho := fun d r => match d with
  | .tuple ds => if ds.length = n then l ds r else none
  | .list ds => if ds.length = n then l ds r else none
  | _ => none
def gSeq (K : PySem.W.Frag) (n : Nat) (t : TGs) : TG := fun v σ H Q => gTup K n t v σ H Q ∨ gLst K n t v σ H Q
section
variable {X : Cx} {ms : Ms}
theorem cg_seq {K : PySem.W.Frag} {es : List Expr} {is : List Nat} {k : Nat} {l : List D → Rho → Option Rho} {gs : TGs} {n : Nat} {pos : Pos} (hc : X.calm = true) (h : CGs X ms es is l gs)
    (hn : (assignEach es X.env).length = n := by rfl) (hst : (assignEach es X.env).findIdx? (·.1) = none := by rfl) (hK : X.K = K := by rfl) : CG X ms (.Tuple es k pos) is (kSeq n l) (gSeq K n gs) := by
  subst hK
  refine ⟨⟨fun pins s σ H v u Q I r q => q.elim ((pg_tup hc h.1 hn hst).run pins s σ H v u Q I r) ((pg_lst hc h.1 hn hst).run pins s σ H v u Q I r)⟩, fun {σ H r O G v d r' Q} R hl rp e q => ?_⟩
  cases rp with
  | tup ht ra =>
    rename_i a xs ds
    have e : (if ds.length = n then l ds r else none) = some r' := e
    split at e
    · rename_i hz
      exact .inl ⟨a, xs, rfl, DL.Same.tup msk_sub ht, by rw [ra.len]; exact hz, h.2 R hl ra e q⟩
    · cases e
  | lst ht ra =>
    rename_i a xs ds
    have e : (if ds.length = n then l ds r else none) = some r' := e
    split at e
    · rename_i hz
      exact .inr ⟨a, xs, rfl, .inl (DL.Same.rd msk_sub ht), by rw [ra.len]; exact hz, h.2 R hl ra e q⟩
    · cases e
  | _ => cases e
theorem cg_two2 {K : PySem.W.Frag} (i j : Nat) {x y : Str} {k : Nat} {p1 p2 pos : Pos} (nd : X.N.Nodup) (hc : X.calm = true := by rfl) (hs : (ms i).sh = .pur := by rfl) (hf : (ms i).fx = false := by rfl) (hi : X.N[i]? = some x := by rfl) (hx : Loc X.env.scope x := by first | exact .inl rfl | exact .inr rfl)
    (hfn : X.fn x = true ∨ X.env.scope.names.lookup x = some .local := by first | exact .inl rfl | exact .inr rfl | assumption) (hs' : (ms j).sh = .pur := by rfl) (hf' : (ms j).fx = false := by rfl) (hi' : X.N[j]? = some y := by rfl) (hx' : Loc X.env.scope y := by first | exact .inl rfl | exact .inr rfl)
    (hfn' : X.fn y = true ∨ X.env.scope.names.lookup y = some .local := by first | exact .inl rfl | exact .inr rfl | assumption) (hK : X.K = K := by rfl) : CG X ms (.Tuple [.Name x p1, .Name y p2] k pos) [i, j] (kSeq 2 (kCons (kName i) (kCons (kName j) kNil))) (gSeq K 2 (gCons (gName i) (gCons (gName j) gNil))) :=
  cg_seq hc (cgs_cons (cg_name i nd hs hf hi hx hfn) (cgs_cons (cg_name j nd hs' hf' hi' hx' hfn') cgs_nil)) (hK := hK)
end
end DL
end

section
set_option maxHeartbeats 4000000
namespace DL
open PySem PySem.Spec PyProof.Rows L2
/-! ## a set of texts: TSet h a L, L its members, each once -/
def tkey (e : Int × Value) : Str := if let .str k _ := e.2 then k else Str.empty
def TGood (P : Program) (w : World) (e : Int × Value) : Prop := ∃ k tk, e = ((strKind P w).hash k, Value.str k tk)
structure TIn (P : Program) (w : World) (L : List Str) (es : Array (Int × Value)) (t : SetTable) : Prop where
  good : ∀ e ∈ es.toList, TGood P w e
  perm : (es.toList.map tkey).Perm L
  few : es.size < scanBound
  fit : t.fits es.size = true
  ris : Ris t.place.toList
  led : w.params.followText "set-order" = true ∨ t.led = true
structure TSet (P : Program) (w : World) (h : Heap) (a : Addr) (L : List Str) : Prop where
  nd : L.Nodup
  ob : ∃ o es ep t, h.get? a = some o ∧ o.ExactSet ∧ o.data = .set es ep t ∧ TIn P w L es t
section
variable {P : Program} {w : World} {A : Around} {E : Value → Shared → Prop} {s : Shared} {a : Addr} {L : List Str}
theorem TSet.to {h h' : Heap} (T : TSet P w h a L) (k : ∀ o, h.get? a = some o → h'.get? a = some o) : TSet P w h' a L :=
  ⟨T.nd, let ⟨o, es, ep, t, ho, r⟩ := T.ob; ⟨o, es, ep, t, k o ho, r⟩⟩
theorem TIn.elems {es : Array (Int × Value)} {t : SetTable} (T : TIn P w L es t) : ElemsOf (strKind P w) es.toList := fun e he => by
  obtain ⟨k, tk, rfl⟩ := T.good e he
  exact ⟨⟨k, strKind_is _ _ _ _, rfl⟩, rfl⟩
theorem tkey_is {e : Int × Value} (g : TGood P w e) (k : Str) : (strKind P w).is k e.2 = true ↔ tkey e = k := by
  obtain ⟨x, tk, rfl⟩ := g
  exact beq_iff_eq
theorem TIn.mem {es : Array (Int × Value)} {t : SetTable} (T : TIn P w L es t) (k : Str) : k ∈ L ↔ ∃ e ∈ es.toList, (strKind P w).is k e.2 = true :=
  T.perm.mem_iff.symm.trans (List.mem_map.trans ⟨fun ⟨e, he, q⟩ => ⟨e, he, (tkey_is (T.good e he) k).2 q⟩, fun ⟨e, he, q⟩ => ⟨e, he, (tkey_is (T.good e he) k).1 q⟩⟩)
theorem TIn.size {es : Array (Int × Value)} {t : SetTable} (T : TIn P w L es t) : es.size = L.length := by
  have e := T.perm.length_eq
  rwa [List.length_map, Array.length_toList] at e
/-- a text more in a set's table -/
def insT (L : List Str) (k : Str) : List Str := if k ∈ L then L else k :: L
theorem insT_nd (k : Str) (h : L.Nodup) : (insT L k).Nodup := by
  unfold insT
  split
  · exact h
  · rename_i z; exact List.nodup_cons.mpr ⟨z, h⟩
theorem insT_len (k : Str) : (insT L k).length ≤ L.length + 1 := by
  unfold insT
  split
  · exact Nat.le_succ _
  · exact Nat.le_refl _
theorem mem_insT {k x : Str} : x ∈ insT L k ↔ x = k ∨ x ∈ L := by
  unfold insT
  split
  · rename_i z; exact ⟨.inr, fun q => q.elim (fun e => e ▸ z) id⟩
  · exact List.mem_cons
/-- behind the row's laying: it is stored, and the table laid anew where it is too full -/
theorem tset_tail {g : Bool → Sem Unit} (hg : ∀ (b : Bool) (s1 : Shared) (Z : Unit → Shared → Prop), Z () s1 → wpAny (model P w) A (g b) Z E s1) {o : Obj} {es es1 : Array (Int × Value)} {ep : Nat} {t t2 : SetTable} {was : Bool} {Z : Option Bool → Shared → Prop}
    (ho : s.heap.get? a = some o) (hx : o.ExactSet) (hd : o.data = .set es ep t) (nd : L.Nodup) (T : TIn P w L es1 t2) (q : ∀ h', Heap.SameBut a s.heap h' → TSet P w h' a L → Z (some true) { s with heap := h' }) :
    wpAny (model P w) A (do
      storeSet a es1 t2
      if (!was && t2.tooFull) = true then do
        g (relayAll t2 es1 (SetTable.grown es1.size)).2.2
        storeSet a (relayAll t2 es1 (SetTable.grown es1.size)).1 (relayAll t2 es1 (SetTable.grown es1.size)).2.1
        pure (some true)
      else pure (some true)) Z E s := by
  have at1 := store_at (es' := es1) (t' := t2) ho hd
  have same1 := Heap.SameBut.update s.heap a (Obj.putSet es1 t2)
  refine wpAny_bind (wpAny_storeSet_of ho hd ?_ (fits_of_scanBound T.few))
  by_cases full : (!was && t2.tooFull) = true
  · have p3 := relayAll_perm t2 es1 (SetTable.grown es1.size)
    have T3 : TIn P w L (relayAll t2 es1 (SetTable.grown es1.size)).1 (relayAll t2 es1 (SetTable.grown es1.size)).2.1 :=
      have hz : (relayAll t2 es1 (SetTable.grown es1.size)).1.size = es1.size := by rw [← Array.length_toList, p3.length_eq, Array.length_toList]
      ⟨fun e he => T.good e (p3.mem_iff.mp he), (p3.map tkey).trans T.perm, by rw [hz]; exact T.few, relayAll_fits t2 es1 _, relayAll_ris t2 es1 _, T.led.imp_right fun z => (relayAll_led t2 es1 _).trans z⟩
    rw [if_pos full]
    refine wpAny_bind (hg _ _ _ (wpAny_bind (wpAny_storeSet_of at1 rfl ?_ (fits_of_scanBound T3.few))))
    exact wpAny_pure (q _ (same1.trans (Heap.SameBut.update _ a _)) ⟨nd, _, _, _, _, store_at at1 rfl, hx, rfl, T3⟩)
  · rw [if_neg full]
    exact wpAny_pure (q _ same1 ⟨nd, _, es1, _, t2, at1, hx, rfl, T⟩)
/-- the answer does not matter -/
theorem tset_add {k : Str} {u : Tok} {Z : Bool → Shared → Prop} (S : TSet P w s.heap a L) (room : L.length + 1 < scanBound) (q : ∀ b h', Heap.SameBut a s.heap h' → TSet P w h' a (insT L k) → Z b { s with heap := h' }) :
    wpAny (model P w) A (setAddHashed a (.str k u) ((strKind P w).hash k)) Z E s := by
  obtain ⟨nd, o, es, ep, t, ho, hx, hd, T⟩ := S
  have isk : (strKind P w).is k (.str k u) = true := strKind_is _ _ _ _
  have sc : (Value.str k u).scannable = true := rfl
  unfold setAddHashed setAddHashedIn
  refine wpAny_holding (wpAny_bind (wpAny_setState_of ho hd T.fit ?_))
  dsimp only
  rw [byScan_of sc T.few T.elems, if_pos rfl]
  unfold setAddByScan
  refine wpAny_bind (wpAny_bind (wpAny_rule (wpAny_bind (wpAny_setScan_of isk ho hd T.fit T.elems ?_))))
  have there : k ∈ L ↔ ∃ e ∈ es.toList, (strKind P w).is k e.2 = true := T.mem k
  cases hf : es.toList.findIdx? fun e => (strKind P w).is k e.2 with
  | some j =>
    have hk : k ∈ L := there.mpr (by
      obtain ⟨hj, pj, _⟩ := List.findIdx?_eq_some_iff_getElem.mp hf
      exact ⟨_, List.getElem_mem hj, pj⟩)
    have e : insT L k = L := if_pos hk
    rw [e] at q
    exact wpAny_pure (wpAny_pure (q _ s.heap (.refl a s.heap) ⟨nd, o, es, ep, t, ho, hx, hd, T⟩))
  | none =>
    have hk : k ∉ L := fun z => by
      obtain ⟨e, he, y⟩ := there.mp z
      have c := List.findIdx?_eq_none_iff.mp hf e he
      rw [y] at c
      cases c
    have e : insT L k = k :: L := if_neg hk
    rw [e] at q
    have gw : ∀ (b : Bool) (s1 : Shared) (Z : Unit → Shared → Prop), Z () s1 → wpAny (model P w) A (match b with | true => rule "set.scan.the-table-gave-way" | false => pure ()) Z E s1 := fun b s1 Z z => by
      cases b with
      | true => exact wpAny_rule z
      | false => exact wpAny_pure z
    have pm := layNew_perm t es ((strKind P w).hash k) (.str k u)
    have T1 : ∀ t' : SetTable, t'.place = (layNew t es ((strKind P w).hash k) (.str k u)).2.1.place → t'.led = (layNew t es ((strKind P w).hash k) (.str k u)).2.1.led → t'.fits (layNew t es ((strKind P w).hash k) (.str k u)).1.size = true →
        TIn P w (k :: L) (layNew t es ((strKind P w).hash k) (.str k u)).1 t' := fun t' e1 e2 ft => by
      rw [Array.toList_push] at pm
      have pc := pm.trans (List.perm_append_singleton _ _)
      refine ⟨fun e he => (List.mem_cons.mp (pc.mem_iff.mp he)).elim (fun z => ⟨k, u, z⟩) (T.good e), (pc.map tkey).trans (List.Perm.cons k T.perm), ?_, ft, ?_, T.led.imp_right fun z => ?_⟩
      · rw [← Array.length_toList, pc.length_eq, List.length_cons, Array.length_toList, T.size]; exact room
      · rw [e1]; exact layNew_ris t es _ _ T.ris
      · rw [e2, layNew_led]; exact z
    have fit0 := layNew_fits t es ((strKind P w).hash k) (.str k u)
    have nd1 : (k :: L).Nodup := List.nodup_cons.mpr ⟨hk, nd⟩
    generalize layNew t es ((strKind P w).hash k) (.str k u) = y at T1 fit0 ⊢
    obtain ⟨es1, t1, was, gave⟩ := y
    dsimp only at T1 fit0 ⊢
    refine wpAny_bind (gw _ _ _ ?_)
    by_cases pl : t1.plain = true
    · rw [if_pos pl]
      refine wpAny_bind ?_
      rw [hashByValue_scannable 8 sc]
      refine wpAny_pure ?_
      refine tset_tail gw ho hx hd nd1 (T1 _ rfl rfl (SetTable.fits_plain_off fit0)) fun h' sb S' => ?_
      exact wpAny_pure (q _ h' sb S')
    · rw [if_neg pl]
      refine wpAny_bind (wpAny_pure ?_)
      rw [if_pos rfl]
      refine tset_tail gw ho hx hd nd1 (T1 _ rfl rfl fit0) fun h' sb S' => ?_
      exact wpAny_pure (q _ h' sb S')
theorem drop_get {x : Str} {i c : Nat} (e : x.cps[i]? = some c) : x.cps.toList.drop i = c :: x.cps.toList.drop (i + 1) := by
  obtain ⟨h, e⟩ := List.getElem?_eq_some_iff.mp (Array.getElem?_toList.trans e)
  rw [List.drop_eq_getElem_cons h, e]
/-- the signs of a text, put one after another into a set -/
def insAll (L : List Str) (cs : List Nat) : List Str := cs.foldl (fun L c => insT L ⟨#[c]⟩) L
theorem insAll_nd : ∀ (cs : List Nat) {L : List Str}, L.Nodup → (insAll L cs).Nodup
  | [], _, h => h
  | c :: cs, _, h => insAll_nd cs (insT_nd _ h)
theorem mem_insAll {x : Str} : ∀ (cs : List Nat) {L : List Str}, x ∈ insAll L cs ↔ x ∈ L ∨ ∃ c ∈ cs, x = ⟨#[c]⟩
  | [], L => ⟨.inl, fun h => h.elim id fun ⟨c, h, _⟩ => nomatch h⟩
  | c :: cs, L => by
    show x ∈ insAll (insT L ⟨#[c]⟩) cs ↔ _
    rw [mem_insAll cs, mem_insT]
    constructor
    · rintro ((h | h) | ⟨d, h, e⟩)
      · exact .inr ⟨c, List.mem_cons_self, h⟩
      · exact .inl h
      · exact .inr ⟨d, List.mem_cons_of_mem _ h, e⟩
    · rintro (h | ⟨d, h, e⟩)
      · exact .inl (.inr h)
      · rcases List.mem_cons.mp h with z | z
        · exact .inl (.inl (z ▸ e))
        · exact .inr ⟨d, z, e⟩
theorem insAll_len : ∀ (cs : List Nat) (L : List Str), (insAll L cs).length ≤ L.length + cs.length
  | [], L => Nat.le_refl _
  | c :: cs, L => by
    have h1 := insAll_len cs (insT L ⟨#[c]⟩)
    have h2 := insT_len (L := L) ⟨#[c]⟩
    show (insAll (insT L ⟨#[c]⟩) cs).length ≤ L.length + (cs.length + 1)
    omega
theorem tset_loop {I : Addr} {fp wr : List Addr} {x : Str} {St : Nat → Heap → Prop} {R : Result → Shared → Prop} (W : Walks P w A.in1 I fp wr x.cps.size (SignAt x) St) (hfp : a ∉ fp) :
    ∀ (m i : Nat) (L : List Str) (s : Shared), x.cps.size - i = m → i ≤ x.cps.size → St i s.heap → TSet P w s.heap a L → L.length + m + 1 < scanBound →
      (∀ h' tk, (∀ b o, b ≠ a → b ∉ wr → s.heap.get? b = some o → h'.get? b = some o) → TSet P w h' a (insAll L (x.cps.toList.drop i)) → R (.ok (.ret .none)) { s with heap := h', toks := tk }) →
      codeAny (model P w) A (.builtin "set.update.loop" ⟨[.ref a, .ref I], []⟩) R s := by
  have hwr : a ∉ wr := fun z => hfp (W.sub _ z)
  intro m
  induction m with
  | zero =>
    intro i L s hm hi hst S _ q
    have hi : i = x.cps.size := by omega
    refine codeAny_builtin F.entry_set_update_loop ?_
    rw [Around.under_plainId F.plain_set_update_loop _]
    show wpAny _ A.in1 (pyNext (.ref I) >>= _) _ _ s
    refine wpAny_bind (W.done s _ _ (by rw [← hi]; exact hst) fun h' tk k => ?_)
    have e : x.cps.toList.drop i = [] := List.drop_eq_nil_of_le (by rw [Array.length_toList, hi]; exact Nat.le_refl _)
    rw [e] at q
    show wpAny _ A.in1 (ret Value.none) _ _ _
    exact wpAny_pure (q h' tk (fun b o _ hb => k b o hb) (S.to fun o => k a o hwr))
  | succ m ih =>
    intro i L s hm hi hst S room q
    refine codeAny_builtin F.entry_set_update_loop ?_
    rw [Around.under_plainId F.plain_set_update_loop _]
    show wpAny _ A.in1 (pyNext (.ref I) >>= _) _ _ s
    refine wpAny_bind (W.item i s _ _ (by omega) hst fun v h1 tk1 ⟨c, u, hc, ev⟩ hst1 k1 => ?_)
    subst ev
    rw [drop_get hc] at q
    show wpAny _ A.in1 (holding [Value.str ⟨#[c]⟩ u] (setAdd a (.str ⟨#[c]⟩ u)) >>= _) _ _ _
    refine wpAny_bind (wpAny_holding ?_)
    unfold setAdd
    refine wpAny_holding (wpAny_bind ((strKind P w).pyHash (k := ⟨#[c]⟩) (strKind_is _ _ _ _) ?_))
    refine tset_add (L := L) (S.to fun o => k1 a o hwr) (by omega) fun b h2 sb S2 => ?_
    have hl := insT_len (L := L) ⟨#[c]⟩
    refine wpAny_pure ⟨plainId_quiet F.plain_set_update_loop _, ih (i + 1) _ _ (by omega) (by omega) (W.frame _ _ _ hst1 fun b hb o e => ?_) S2 (by omega) fun h3 tk3 k3 S3 => ?_⟩
    · exact (sb.2 b fun z => hfp (z ▸ hb)).trans e
    · exact q h3 tk3 (fun b o n1 n2 e => k3 b o n1 n2 ((sb.2 b n1).trans (k1 b o n2 e))) S3
end
end DL
namespace DL
open PySem PySem.Spec PyProof.Rows L2
abbrev setNew (w : World) : Obj := { cls := .type "set", dict := none, data := .set #[] 0 (.fresh 0 0 (!w.params.followText "set-order")) }
section
variable {P : Program} {w : World} {A : Around} {E : Value → Shared → Prop} {s : Shared} {a : Addr} {L : List Str}
theorem tset_fresh {h : Heap} (ho : h.get? a = some (setNew w)) : TSet P w h a [] :=
  ⟨List.nodup_nil, _, #[], 0, _, ho, ⟨rfl, rfl, rfl⟩, rfl, fun e he => (by cases he), List.Perm.nil, (by decide), (by rfl), List.Pairwise.nil, by
    show _ ∨ (!w.params.followText "set-order") = true
    cases w.params.followText "set-order" with
    | false => exact .inr rfl
    | true => exact .inl rfl⟩
/-- set(text): its __init__ -/
theorem setI_text {x : Str} {u : Tok} {R : Result → Shared → Prop} (hh : A.handled = none) (few : x.cps.size + 1 < scanBound) (ha : s.heap.get? a = some (setNew w))
    (q : ∀ h' tk, (∀ b o, b ≠ a → s.heap.get? b = some o → h'.get? b = some o) → TSet P w h' a (insAll [] x.cps.toList) → R (.ok (.ret .none)) { s with heap := h', toks := tk }) :
    codeAny (model P w) A (.call (.builtin "set.__init__") ⟨[.ref a, .str x u], []⟩) R s := by
  have hT : s.TypeIs (.ref a) "set" := ⟨_, ha, rfl⟩
  refine codeAny_call_builtin F.called_set.init.plain F.entry_set_init (check_set_init_1 hT ?_)
  have n1 := PySem.F.sub_str_set
  have n2 := PySem.F.sub_str_frozenset
  unfold Builtin.«set.__init__» noKeywords Builtin.Frozenset.updateFrom
  generalize hPI : pyIter = PI
  wp_walk
  subst hPI
  refine wpAny_pyIter_str fun o St hW st0 => ?_
  have at1 : (s.heap.push o).get? a = some (setNew w) := Heap.get?_push_of_some _ ha
  have hfp : a ∉ [s.heap.objs.size] := fun z => Nat.lt_irrefl _ (by have := Heap.lt_size ha; rwa [List.mem_singleton.mp z] at this)
  refine wpAny_bind (wpAny_runValue (tset_loop (hW _ (by simp [hh])) hfp _ 0 [] { s with heap := s.heap.push o } rfl (Nat.zero_le _) st0 (tset_fresh at1) (by simpa using few) fun h' tk k S => ?_))
  show wpAny _ _ (pure ()) _ _ _
  refine wpAny_pure ?_
  show wpAny _ _ (ret Value.none) _ _ _
  refine wpAny_pure (q h' tk (fun b o hb e => k b o hb (fun z => Nat.lt_irrefl _ (by have := Heap.lt_size e; rwa [List.mem_singleton.mp z] at this)) (Heap.get?_push_of_some _ e)) S)
theorem set_of_text {x : Str} {u : Tok} {Z : Value → Shared → Prop} (hh : A.handled = none) (few : x.cps.size + 1 < scanBound)
    (q : ∀ h' tk, (∀ b o, s.heap.get? b = some o → h'.get? b = some o) → TSet P w h' s.heap.objs.size (insAll [] x.cps.toList) → Z (.ref s.heap.objs.size) { s with heap := h', toks := tk }) :
    wpAny (model P w) A (call (.type "set") [.str x u]) Z E s := by
  have at0 : (s.heap.push (setNew w)).get? s.heap.objs.size = some (setNew w) := Heap.get?_push_size _ rfl
  have old : ∀ b o, s.heap.get? b = some o → b ≠ s.heap.objs.size := fun b o e => Nat.ne_of_lt (Heap.lt_size e)
  obtain ⟨c0, tl, ro⟩ := F.called_set.mro
  have f1 := F.called_set.made
  have f2 := F.called_set.sub
  have f3 := F.called_set.notType
  have f4 := F.called_set.canCreate
  have f5 := F.typeCall_set_1 (.str x u)
  refine wpAny_call (codeAny_of_tree (show wpAny _ _ (callAny (.type "set") _) _ _ _ from wpAny_pure ⟨Code.quiet_builtin _ (by decide +kernel), codeAny_builtin F.entry_type_call ?_⟩))
  rw [Around.under_plain (weight_type_call_type "set" [.str x u] []) rfl]
  repeat any_goals first | assumption | wp_step
  refine codeAny_mono (code_set_led1 (.str x u) (E := E) (Q₁ := fun o1 s1 => o1 = .ref s.heap.objs.size ∧ s1 = { s with heap := s.heap.push (setNew w) }) ⟨rfl, rfl⟩) fun r s1 h1 => ?_
  match r, h1 with
  | .error e, h1 => exact h1
  | .ok (.ret o1), h1 =>
    obtain ⟨rfl, rfl⟩ := h1
    have hT : Shared.TypeIs { s with heap := s.heap.push (setNew w) } (.ref s.heap.objs.size) "set" := ⟨_, at0, rfl⟩
    have f6 := F.called_set.init.lookup
    have f7 := F.called_set.init.bind (.ref s.heap.objs.size)
    repeat any_goals first | assumption | wp_step
    refine setI_text (s := { s with heap := s.heap.push (setNew w) }) (by simpa using hh) few at0 fun h' tk k S => ?_
    repeat any_goals first | assumption | wp_step
    exact q h' tk (fun b o e => k b o (old b o e) (Heap.get?_push_of_some _ e)) S
end
end DL
namespace DL
open PySem PySem.Spec PyProof.Rows L2
section
variable {P : Program} {w : World} {A : Around} {E : Value → Shared → Prop} {s : Shared} {a : Addr} {L : List Str}
abbrev lst0 : Obj := { cls := .type "list", data := .seq ([] : List Value).toArray }
def sgs (x : Str) : List Str := x.cps.toList.map fun c => (⟨#[c]⟩ : Str)
theorem strsAre_get : ∀ (vs : List Value) (cs : List Nat), vs.length = cs.length → (∀ (j : Nat) (v : Value), vs[j]? = some v → ∃ c u, cs[j]? = some c ∧ v = Value.str ⟨#[c]⟩ u) → StrsAre vs (cs.map fun c => (⟨#[c]⟩ : Str))
  | [], [], _, _ => .nil
  | v :: vs, c :: cs, e, k => by
    obtain ⟨c', u, e1, rfl⟩ := k 0 v rfl
    cases e1
    exact .cons _ u (strsAre_get vs cs (Nat.succ.inj e) fun j v q => k (j + 1) v q)
theorem signs_are {x : Str} {acc : Array Value} (h : ItemsOf (SignAt x) acc x.cps.size) : StrsAre acc.toList (sgs x) :=
  strsAre_get _ _ (by rw [Array.length_toList, Array.length_toList]; exact h.1) fun j v q => by
    obtain ⟨c, u, e1, e2⟩ := h.2 j v (by rw [← Array.getElem?_toList]; exact q)
    exact ⟨c, u, by rw [Array.getElem?_toList]; exact e1, e2⟩
theorem hint_text {M : Model} {A : Around} {x : Str} {u : Tok} {Z : Bool → Shared → Prop} (q : Z false s) : wpAny M A (Builtin.List.listLengthHint (.str x u)) Z E s := by
  unfold Builtin.List.listLengthHint
  refine wpAny_bind (wpAny_specialOf (T := "str") (v := .str x u) rfl PySem.F.str_len ?_)
  wp_delta
  refine wpAny_bind (wpAny_isInstance (T := "str") (v := .str x u) (b := true) rfl (by rw [isSubtype_type]; kernel_rfl) (wpAny_bind (wpAny_typeOf (T := "str") (v := .str x u) rfl (wpAny_pure q))))
/-- a text, item by item, into a list of the model's own; the heap grows -/
theorem collect_text {x : Str} {u : Tok} {Z : List Value → Shared → Prop} (hh : A.handled = none) (few : x.cps.size ≤ sizeLine)
    (q : ∀ s' vs, (∀ b o, s.heap.get? b = some o → s'.heap.get? b = some o) → s.heap.objs.size ≤ s'.heap.objs.size → s'.gens = s.gens → s'.os = s.os → StrsAre vs (sgs x) → Z vs s') :
    wpAny (model P w) A (collect (.str x u)) Z E s := by
  have at0 : (s.heap.push lst0).get? s.heap.objs.size = some lst0 := Heap.get?_push_size _ rfl
  have old : ∀ b o, s.heap.get? b = some o → b < s.heap.objs.size := fun b o e => Heap.lt_size e
  unfold collect
  refine wpAny_bind (wpAny_runValue (codeAny_builtin PySem.F.entry_proto_collect ?_))
  rw [Around.under_plainId PySem.F.plain_proto_collect _]
  show wpAny _ A.in1 (newList [] >>= fun l => again (.builtin "list.__iadd__" ⟨[l, .str x u], []⟩)) _ _ s
  refine wpAny_bind (wpAny_newObj_type (wpAny_pure ⟨plainId_quiet PySem.F.plain_list_iadd _, codeAny_builtin PySem.F.entry_list_iadd ?_⟩))
  rw [Around.under_plainId PySem.F.plain_list_iadd _]
  show wpAny _ A.in1 (Builtin.List.listExtendWith (.ref s.heap.objs.size) (.str x u) (.ref s.heap.objs.size)) _ _ _
  unfold Builtin.List.listExtendWith
  refine wpAny_bind (wpAny_typeOf (T := "str") (v := .str x u) rfl ?_)
  have no : (Builtin.List.listSameRef (.ref s.heap.objs.size) (.str x u) || (Value.type "str" == Value.type "list") || (Value.type "str" == Value.type "tuple")) = false := by
    show (false || (Value.type "str" == Value.type "list") || (Value.type "str" == Value.type "tuple")) = false
    decide
  rw [no]
  simp only [Bool.false_eq_true, if_false]
  refine wpAny_bind (wpAny_pyIter_str fun o St W st0 => wpAny_bind (wpAny_holding (hint_text ?_)))
  rw [if_neg (by decide)]
  have sz : (s.heap.push lst0).objs.size = s.heap.objs.size + 1 := Heap.size_push ..
  have apart : s.heap.objs.size ∉ [(s.heap.push lst0).objs.size] := fun z => by have := List.mem_singleton.mp z; omega
  refine wpAny_pure ⟨plainId_quiet PySem.F.plain_extend_loop _, codeAny_extend_loopS (W A.in1 (by simpa using hh)).toS few _ apart _ x.cps.size 0 _ _ _ rfl (Nat.zero_le _) st0 (Heap.get?_push_of_some _ at0) (ItemsOf.nil _) fun s2 acc c2 mv at2 its => ?_⟩
  show wpAny _ A (load s.heap.objs.size >>= _) _ _ s2
  refine wpAny_bind (wpAny_load at2 (wpAny_pure (q s2 _ (fun b ob e => mv.heap b ob (fun z => ?_) (Heap.get?_push_of_some _ (Heap.get?_push_of_some _ e))) (Nat.le_of_lt (Heap.lt_size at2)) mv.gens mv.os (signs_are its))))
  have lt := old b ob e
  rcases List.mem_cons.mp z with z | z
  · rw [z] at lt; exact Nat.lt_irrefl _ lt
  · rw [List.mem_singleton.mp z, sz] at lt
    exact absurd lt (Nat.not_lt.mpr (Nat.le_succ _))
/-- sorted(x), x gives texts one after another: a new list -/
theorem sorted_of {r : Value} {ss : List Str} {Z : Value → Shared → Prop} (few : ss.length ≤ sizeLine)
    (col : ∀ (E' : Value → Shared → Prop) (Z' : List Value → Shared → Prop), (∀ s' vs, (∀ b o, s.heap.get? b = some o → s'.heap.get? b = some o) → s.heap.objs.size ≤ s'.heap.objs.size → s'.gens = s.gens → s'.os = s.os → ∀ ys : List Str, StrsAre vs ys → ys.Perm ss → Z' vs s') → wpAny (model P w) A.in1 (collect r) Z' E' s)
    (q : ∀ s' p (out : Array Value) (c : Nat) (ys : List Str), (∀ b o, s.heap.get? b = some o → s'.heap.get? b = some o) → s'.gens = s.gens → s'.os = s.os → s.heap.objs.size ≤ p →
      s'.heap.get? p = some (seqObj "list" out c) → StrsAre out.toList ys → ys.Perm ss → sortedS ys = true → Z (.ref p) s') :
    wpAny (model P w) A (call (.builtin "sorted") [r]) Z E s := by
  refine Calls.call_function_entry kind_sorted plain_sorted entry_sorted (args_sorted1 _) ?_
  unfold Builtin.«sorted»
  refine wpAny_bind (m := checkCount "sorted" 1 1 _) (wpAny_pure (wpAny_bind (col _ _ fun s1 vs k1 hsz g1 o1 zs sa pz => ?_)))
  have lv : vs.length = ss.length := (StrsAre.length sa).trans pz.length_eq
  refine wpAny_bind (wpAny_newList ?_ (by rw [lv]; exact few))
  have atL : (s1.heap.push (seqObj "list" vs.toArray 0)).get? s1.heap.objs.size = some (seqObj "list" vs.toArray 0) := Heap.get?_push_size _ rfl
  refine wpAny_bind (wpAny_holding (wpAny_call_entry slot_list_sort ⟨_, atL, rfl⟩ entry_list_sort (list_sort_treeKAny strKind_oneLt atL sa.keysOf (fun v1 v2 rest e => keyKind_strs (by rw [← e]; exact sa)) (by rw [lv]; exact few) fun st' hp hs => ⟨_, rfl, ?_⟩) (args_list_sort _)))
  obtain ⟨ys, h1, h2, h3⟩ := sorted_out_str sa hp hs
  obtain ⟨c, hc⟩ := sortedHeap_at (vs := vs) (out := (arrOf st').map (·.2)) atL
  refine wpAny_pure ⟨_, rfl, q _ _ _ c ys (fun b u e => ?_) g1 o1 hsz hc h1 (h2.trans pz) h3⟩
  have old := k1 b u e
  have lt := Heap.lt_size old
  exact (sortedHeap_old (Nat.ne_of_lt lt) (by rw [size_push']; exact Nat.lt_succ_of_lt lt)).trans (Heap.get?_push_of_some _ old)
/-- the texts of a set, in some order -/
theorem collect_tset {Z : List Value → Shared → Prop} (hh : A.handled = none) (S : TSet P w s.heap a L)
    (q : ∀ s' vs ys, (∀ b o, s.heap.get? b = some o → s'.heap.get? b = some o) → s.heap.objs.size ≤ s'.heap.objs.size → s'.gens = s.gens → s'.os = s.os → StrsAre vs ys → ys.Perm L → Z vs s') :
    wpAny (model P w) A (collect (.ref a)) Z E s := by
  obtain ⟨nd, o, es, ep, t, ho, hx, hd, T⟩ := S
  refine collect_set hh ⟨o, ho, hx.1, hd⟩ T.fit T.few T.ris T.led fun s1 vs k1 hz g1 o1 pm => ?_
  have tx : ∀ v ∈ vs, ∃ k tk, v = Value.str k tk := fun v hv => by
    obtain ⟨e, he, z⟩ := List.mem_map.mp (pm.mem_iff.mp hv)
    obtain ⟨k, tk, rfl⟩ := T.good e he
    exact ⟨k, tk, z.symm⟩
  have pk : ∀ l : List (Int × Value), l.map tkey = (l.map (·.2)).map fun v => tkey (0, v) := fun l => by rw [List.map_map]; rfl
  refine q s1 vs (vs.map fun v => tkey (0, v)) k1 hz g1 o1 ?_ ?_
  · clear pm q k1 hz
    induction vs with
    | nil => exact .nil
    | cons v vs ih =>
      obtain ⟨k, tk, rfl⟩ := tx v List.mem_cons_self
      exact .cons k tk (ih fun v hv => tx v (List.mem_cons_of_mem _ hv))
  · have := T.perm
    rw [pk] at this
    exact (pm.map _).trans this
end
end DL
end

section
set_option maxHeartbeats 1000000
namespace DL
open PySem PySem.Spec PyProof.Rows L2
/-! ## sorted -/
def leS (a b : Str) : Bool := decide (a.cps.toList ≤ b.cps.toList)
def sortStr (ss : List Str) : List Str := ss.mergeSort leS
def sortInt (ns : List Int) : List Int := ns.mergeSort fun a b => decide (a ≤ b)
theorem leS_trans (a b c : Str) (h : leS a b = true) (k : leS b c = true) : leS a c = true := decide_eq_true (List.le_trans (of_decide_eq_true h) (of_decide_eq_true k))
theorem leS_total (a b : Str) : (leS a b || leS b a) = true := by
  rcases List.le_total a.cps.toList b.cps.toList with h | h
  · rw [leS, decide_eq_true h]; rfl
  · rw [Bool.or_comm, leS, decide_eq_true h]; rfl
theorem str_eq {a b : Str} (h : a.cps.toList = b.cps.toList) : a = b := by
  cases a; cases b
  exact congrArg Str.mk (Array.ext' h)
theorem risingS_le {p x : Str} {r : List Str} (h : risingS p (x :: r) = true) : leS p x = true ∧ risingS x r = true := by
  obtain ⟨a, b⟩ := Bool.and_eq_true_iff.mp h
  rw [ltCps_eq] at a
  refine ⟨decide_eq_true (List.not_lt.mp fun z => ?_), b⟩
  rw [decide_eq_true z] at a
  cases a
theorem risingS_pw : ∀ {r : List Str} {p : Str}, risingS p r = true → (p :: r).Pairwise fun a b => leS a b = true
  | [], _, _ => List.pairwise_singleton _ _
  | x :: r, p, h => by
    obtain ⟨a, b⟩ := risingS_le h
    have ih := risingS_pw b
    refine List.Pairwise.cons (fun y hy => ?_) ih
    rcases List.mem_cons.mp hy with z | z
    · rw [z]; exact a
    · exact leS_trans _ _ _ a ((List.pairwise_cons.mp ih).1 y z)
theorem sortedS_pw : ∀ {r : List Str}, sortedS r = true → r.Pairwise fun a b => leS a b = true
  | [], _ => .nil
  | _ :: _, h => risingS_pw h
theorem leS_anti {a b : Str} (h : leS a b = true) (k : leS b a = true) : a = b := str_eq (List.le_antisymm (of_decide_eq_true h) (of_decide_eq_true k))
theorem sortStr_of {ys ss : List Str} (p : ys.Perm ss) (h : sortedS ys = true) : ys = sortStr ss :=
  List.Perm.eq_of_pairwise (le := fun a b => leS a b = true) (fun _ _ _ _ => leS_anti) (sortedS_pw h) (List.pairwise_mergeSort leS_trans leS_total ss) (p.trans (List.mergeSort_perm _ _).symm)
theorem sortInt_of {ys ss : List Int} (p : ys.Perm ss) (h : ys.Pairwise (· ≤ ·)) : ys = sortInt ss :=
  List.Perm.eq_of_pairwise (le := fun a b => a ≤ b) (fun _ _ _ _ a b => Int.le_antisymm a b) h ((List.pairwise_mergeSort (le := fun a b : Int => decide (a ≤ b)) (fun a b c h k => by simp at *; omega) (fun a b => by simp; omega) ss).imp fun h => of_decide_eq_true h) (p.trans (List.mergeSort_perm _ _).symm)
/-- the texts, the numbers of a list of data, if it holds nothing else -/
def strsOf : List D → Option (List Str)
  | [] => some []
  | .str s :: ds => (strsOf ds).map (s :: ·)
  | _ => none
def intsOf : List D → Option (List Int)
  | [] => some []
  | .int s :: ds => (intsOf ds).map (s :: ·)
  | _ => none
theorem strsOf_eq : ∀ {ds : List D} {ss : List Str}, strsOf ds = some ss → ds = ss.map PyData.str
  | [], _, h => by cases h; rfl
  | .str s :: ds, ss, h => by
    unfold strsOf at h
    cases e : strsOf ds with
    | none => rw [e] at h; cases h
    | some t => rw [e] at h; cases h; rw [strsOf_eq e]; rfl
  | .none :: _, _, h => nomatch h
  | .bool _ :: _, _, h => nomatch h
  | .int _ :: _, _, h => nomatch h
  | .list _ :: _, _, h => nomatch h
  | .tuple _ :: _, _, h => nomatch h
  | .dict _ :: _, _, h => nomatch h
theorem intsOf_eq : ∀ {ds : List D} {ss : List Int}, intsOf ds = some ss → ds = ss.map PyData.int
  | [], _, h => by cases h; rfl
  | .int s :: ds, ss, h => by
    unfold intsOf at h
    cases e : intsOf ds with
    | none => rw [e] at h; cases h
    | some t => rw [e] at h; cases h; rw [intsOf_eq e]; rfl
  | .none :: _, _, h => nomatch h
  | .bool _ :: _, _, h => nomatch h
  | .str _ :: _, _, h => nomatch h
  | .list _ :: _, _, h => nomatch h
  | .tuple _ :: _, _, h => nomatch h
  | .dict _ :: _, _, h => nomatch h
theorem strsOf_map (ss : List Str) : strsOf (ss.map PyData.str) = some ss := by
  induction ss with
  | nil => rfl
  | cons s ss ih => show (strsOf (ss.map PyData.str)).map (s :: ·) = _; rw [ih]; rfl
theorem intsOf_map (ss : List Int) : intsOf (ss.map PyData.int) = some ss := by
  induction ss with
  | nil => rfl
  | cons s ss ih => show (intsOf (ss.map PyData.int)).map (s :: ·) = _; rw [ih]; rfl
def rSrt (K : PySem.W.Frag) : List V → Hp → VK → Prop := fun vs H Q =>
  (∃ z : Str, vs = [V.str z] ∧ z.cps.size ≤ sizeLine ∧ ∀ p, H p = none → Q (.ref p) (upd H p (.lst ((sortStr (sgs z)).map V.str)))) ∨
  (∃ (a : Addr) (ss : List Str), vs = [V.ref a] ∧ SqL K H a (ss.map V.str) ∧ ss.length ≤ sizeLine ∧ ∀ p, H p = none → Q (.ref p) (upd H p (.lst ((sortStr ss).map V.str)))) ∨
  (∃ (a : Addr) (ns : List Int), vs = [V.ref a] ∧ SqL K H a (ns.map V.int) ∧ ∀ p, H p = none → Q (.ref p) (upd H p (.lst ((sortInt ns).map V.int))))
section
variable {X : Cx}
theorem vals_str1 {z : Str} {us : List Value} (r : Vals [V.str z] us) : ∃ t, us = [Value.str z t] := by
  cases r with
  | cons a b =>
    cases b
    obtain ⟨t, rfl⟩ := a
    exact ⟨t, rfl⟩
/-- a new list of texts at p, behind a call that leaves all that stood -/
theorem inv_newList {pins : List (Addr × Obj)} {σ : L2.St} {H : Hp} {s s' : Shared} {p : Addr} {out : Array Value} {c : Nat} {ys : List Str} (I : Inv X pins σ H s) (few : ys.length ≤ sizeLine) (k : ∀ b o, s.heap.get? b = some o → s'.heap.get? b = some o) (g : s'.gens = s.gens) (o : s'.os = s.os)
    (hp : s.heap.objs.size ≤ p) (at_ : s'.heap.get? p = some (seqObj "list" out c)) (sa : StrsAre out.toList ys) : H p = none ∧ Inv X pins σ (upd H p (.lst (ys.map V.str))) s' := by
  have hn : H p = none := I.hok.fresh hp
  refine ⟨hn, ?_⟩
  have hl : (ys.map V.str).length ≤ sizeLine := by rw [List.length_map]; exact few
  have J : Inv X pins σ (upd H p (.lst (ys.map V.str))) { s with heap := s'.heap, gens := s'.gens, drawn := s'.drawn, toks := s'.toks } :=
    I.call (ch := []) (Un.laid k hp hn) (I.hok.laid k hp ⟨hl, out.toList, c, vals_of_strs sa, at_⟩) (by rw [g]; exact I.bare) (fun _ z => nomatch z)
  cases s'
  cases o
  exact J
theorem cr_srt (hc : X.calm = true) : CallR X (.builtin "sorted") (rSrt X.K) := by
  intro pins s σ H vs us Q I r h
  rcases h with ⟨z, rfl, hz, q⟩ | ⟨a, ss, rfl, hs, hz, q⟩ | ⟨a, ns, rfl, hs, q⟩
  · obtain ⟨t, rfl⟩ := vals_str1 r
    have hl : (sgs z).length ≤ sizeLine := by rw [sgs, List.length_map, Array.length_toList]; exact hz
    refine sorted_of hl (fun E' Z' k => collect_text (by simpa using I.ok.hd hc) hz fun s' vs a1 a2 a3 a4 a5 => k s' vs a1 a2 a3 a4 _ a5 (List.Perm.refl _)) fun s' p out c ys k g o hp at_ sa pm so => ?_
    rw [← sortStr_of pm so] at q
    obtain ⟨hn, J⟩ := inv_newList I (by rw [pm.length_eq]; exact hl) k g o hp at_ sa
    exact ⟨.ref p, _, J, rfl, q p hn⟩
  · obtain ⟨its, rv, hl, _⟩ := I.list hs
    rw [Vals.ref1 r]
    have hln := rv.length
    rw [List.length_map] at hln
    refine sorted_strsAny hl.isList rv.strs (by rw [← hln]; exact hz) fun out ys h1 h2 h3 => ?_
    rw [← sortStr_of h2 h3] at q
    obtain ⟨ep, at_⟩ := sortedAll_at s.heap its out
    have hl2 : (ys.map V.str).length ≤ sizeLine := by rw [List.length_map, h2.length_eq]; exact hz
    exact ⟨.ref (s.heap.objs.size + 1), upd H (s.heap.objs.size + 1) (.lst (ys.map V.str)), I.laid (t' := s.toks) (fun _ _ => sortedAll_old) (Nat.le_succ _) ⟨hl2, out.toList, ep, vals_of_strs h1, at_⟩, rfl, q _ (I.hok.fresh (Nat.le_succ _))⟩
  · refine cr_sortedI pins s σ H _ us Q I r ⟨a, ns, rfl, hs, fun ns' p pm so hn => ?_⟩
    rw [sortInt_of pm so]
    exact q p hn
def cSorted : List D → Option (List D)
  | [.str z] => if z.cps.size ≤ sizeLine then some ((sortStr (sgs z)).map .str) else none
  | [.list ds] => match strsOf ds with
    | some ss => if ss.length ≤ sizeLine then some ((sortStr ss).map .str) else none
    | none => match intsOf ds with
      | some ns => some ((sortInt ns).map .int)
      | none => none
  | _ => none
theorem sc_srt : SemL X (rSrt X.K) cSorted := fun xs ds es H W Q rp tr e q => by
  unfold cSorted at e
  split at e
  · rename_i z
    obtain ⟨hz, rfl⟩ := ite_some e
    obtain ⟨v, rfl, rv⟩ := rp.one
    rw [rv.strI]
    exact .inl ⟨z, rfl, hz, fun p hn => q _ H p (Same.refl _) hn (repStrs _)⟩
  · rename_i ds
    obtain ⟨v, rfl, rv⟩ := rp.one
    obtain ⟨a, xs, rfl, rd, ra⟩ := rv.lstI
    split at e
    · rename_i ss es
      obtain ⟨hz, rfl⟩ := ite_some e
      rw [strsOf_eq es] at ra
      have := ra.strs
      subst this
      exact .inr (.inl ⟨a, ss, rfl, .inl rd, hz, fun p hn => q _ H p (Same.refl _) hn (repStrs _)⟩)
    · split at e
      · rename_i ns en
        cases e
        rw [intsOf_eq en] at ra
        have := ra.ints
        subst this
        exact .inr (.inr ⟨a, ns, rfl, .inl rd, fun p hn => q _ H p (Same.refl _) hn (repInts _)⟩)
      · cases e
  · cases e
/-- sorted(set(x)), x a text -/
def setSort (z : Str) : List Str := sortStr (insAll [] z.cps.toList)
def tSrtSet (ta : TE) : TE := fun σ H Q => ta σ H fun x H1 => ∃ z : Str, x = .str z ∧ z.cps.size + 1 < scanBound ∧ ∀ p, H1 p = none → Q (.ref p) (upd H1 p (.lst ((setSort z).map V.str)))
theorem pe_srtSet {a : Expr} {ta : TE} {p p2 q pos : Pos} (hc : X.calm = true) (hg : Gl X "sorted") (hm : X.mg "sorted" = none) (hg2 : Gl X "set") (hm2 : X.mg "set" = none) (ha : PE X a ta)
    (na : starEach [a] X.env = (false, eval a X.env) :: starEach [] X.env := by rfl) : PE X (.Call (.Name "sorted" p) [.Call (.Name "set" p2) [a] [] q] [] pos) (tSrtSet ta) := by
  refine ⟨fun pins s σ H Q I h => Call_ (ld_blt I hg hm PyProof.Rows.boot_sorted ?_)⟩
  refine PyProof.Rows.callWith_builtin1 (PyProof.Rows.args_cons (Call_ (ld_blt I hg2 hm2 PyProof.Rows.boot_set ?_)) rfl) rfl rfl
  refine PyProof.Rows.callWith_type1 (PyProof.Rows.args_cons (thn (ha.run pins s σ H _ I h) fun v s1 ⟨x, H1, I1, r1, q1⟩ => PyProof.Rows.args_nil ?_) na) na rfl
  obtain ⟨z, rfl, hz, q1⟩ := q1
  obtain ⟨t, rfl⟩ := r1
  have hl : (insAll [] z.cps.toList).length ≤ sizeLine := Nat.le_trans (insAll_len _ _) (by rw [List.length_nil, Array.length_toList, sizeLine_eq]; unfold scanBound at hz; omega)
  refine set_of_text (I1.ok.hd hc) hz fun h' tk k S => PyProof.Rows.args_nil ?_
  have I2 : Inv X pins σ H1 { s1 with heap := h', toks := tk } := I1.kept k
  refine sorted_of (ss := insAll [] z.cps.toList) (s := { s1 with heap := h', toks := tk }) hl (fun E' Z' col => collect_tset (by simpa using I1.ok.hd hc) S fun s' vs ys a1 a2 a3 a4 a5 a6 => col s' vs a1 a2 a3 a4 ys a5 a6) fun s' p out c ys k2 g o hp at_ sa pm so => ?_
  have e := sortStr_of pm so
  obtain ⟨hn, J⟩ := inv_newList I2 (by rw [pm.length_eq]; exact hl) k2 g o hp at_ sa
  refine ⟨.ref p, _, J, rfl, ?_⟩
  rw [e]
  exact q1 p hn
end
end DL
end

section
set_option maxHeartbeats 4000000
namespace DL
open PySem PySem.Spec PyProof.Rows L2
/-! ## what an iterator walks: a list, a tuple, a text -/
inductive Src where
  | l (a : Addr) (xs : Array Value)
  | t (a : Addr) (xs : Array Value)
  | s (z : Str) (u : Tok)
namespace Src
def val : Src → Value
  | .l a _ => .ref a
  | .t a _ => .ref a
  | .s z u => .str z u
def on : Src → Heap → Prop
  | .l a xs, h => h.IsList a xs
  | .t a xs, h => h.IsTuple a xs
  | .s _ _, _ => True
def base : Src → Addr → Prop
  | .l a _, b => b = a
  | .t a _, b => b = a
  | .s _ _, _ => False
def iter : Src → Heap → Addr → Nat → Prop
  | .l a _, h, it, i => h.IsListIter it a i
  | .t a _, h, it, i => h.IsTupleIter it a i
  | .s z u, h, it, i => h.IsStrIter it (strIterType z) z u i
def item : Src → Nat → Value → Prop
  | .l _ xs, i, v => xs[i]? = some v
  | .t _ xs, i, v => xs[i]? = some v
  | .s z _, i, v => ∃ c u, z.cps[i]? = some c ∧ v = .str ⟨#[c]⟩ u
def size : Src → Nat
  | .l _ xs => xs.size
  | .t _ xs => xs.size
  | .s z _ => z.cps.size
def itO : Src → Obj
  | .l a _ => { cls := .type "list_iterator", data := .fields #[.ref a, .int 0 0] }
  | .t a _ => { cls := .type "tuple_iterator", data := .fields #[.ref a, .int 0 0] }
  | .s z u => { cls := .type (strIterType z), data := .fields #[.str z u, .int 0 0] }
variable {c : Src} {h h' : Heap} {it : Addr} {i : Nat}
theorem on.to (o : c.on h) (k : ∀ b, c.base b → ∀ o, h.get? b = some o → h'.get? b = some o) : c.on h' := by
  cases c with
  | l a xs => obtain ⟨o, ho, r⟩ := o; exact ⟨o, k a rfl o ho, r⟩
  | t a xs => obtain ⟨o, ho, r⟩ := o; exact ⟨o, k a rfl o ho, r⟩
  | s z u => trivial
theorem on.lt (o : c.on h) : ∀ b, c.base b → b < h.objs.size := by
  cases c with
  | l a xs => obtain ⟨o, ho, r⟩ := o; rintro b rfl; exact Heap.lt_size ho
  | t a xs => obtain ⟨o, ho, r⟩ := o; rintro b rfl; exact Heap.lt_size ho
  | s z u => exact fun _ z => z.elim
theorem iter.to (o : c.iter h it i) (k : ∀ o, h.get? it = some o → h'.get? it = some o) : c.iter h' it i := by
  cases c <;> (obtain ⟨o, ho, r⟩ := o; exact ⟨o, k o ho, r⟩)
theorem iter.lt (o : c.iter h it i) : it < h.objs.size := by
  cases c <;> (obtain ⟨o, ho, r⟩ := o; exact Heap.lt_size ho)
theorem iter.ob (o : c.iter h it i) : ∃ o, h.get? it = some o ∧ ∀ v, o.data ≠ .cell v := by
  cases c <;> (obtain ⟨o, ho, _, r⟩ := o; exact ⟨o, ho, fun v z => by rw [r] at z; cases z⟩)
theorem iter.at0 (h : Heap) : c.iter (h.push c.itO) h.objs.size 0 := by
  cases c <;> exact ⟨_, Heap.get?_push_size _ rfl, rfl, rfl⟩
variable {prog : Program} {w : World} {A : Around} {E : Value → Shared → Prop} {s : Shared}
theorem next {Q : Value → Shared → Prop} (hi : c.iter s.heap it i) (ho : c.on s.heap) (lt : i < c.size) (q : ∀ v h' tk, c.item i v → c.iter h' it (i + 1) → Heap.SameBut it s.heap h' → Q v { s with heap := h', toks := tk }) :
    wpAny (model prog w) A (Builtin.SmallTypes.nextOf (.ref it)) Q E s := by
  cases c with
  | l a xs =>
    have lt : i < xs.size := lt
    exact wpAny_nextOf_list_item hi ho (Array.getElem?_eq_getElem lt) fun h' h1 h2 => q _ h' s.toks (Array.getElem?_eq_getElem lt) h1 h2
  | t a xs =>
    have lt : i < xs.size := lt
    exact RZ.nextOf_tuple_item hi ho (Array.getElem?_eq_getElem lt) fun h' h1 h2 => q _ h' s.toks (Array.getElem?_eq_getElem lt) h1 h2
  | s z u =>
    have lt : i < z.cps.size := lt
    have e := Array.getElem?_eq_getElem lt
    have hi : s.heap.IsStrIter it (strIterType z) z u i := hi
    have q : ∀ h' tk t, s.heap.IsStrIter it (strIterType z) z u i → Heap.IsStrIter h' it (strIterType z) z u (i + 1) → Heap.SameBut it s.heap h' → Q (.str ⟨#[z.cps[i]]⟩ t) { s with heap := h', toks := tk } := fun h' tk t _ a b => q _ h' tk ⟨_, t, e, rfl⟩ a b
    unfold strIterType at hi q
    by_cases ha : z.cps.all (· < 128) = true
    · rw [if_pos ha] at hi q
      exact wpAny_nextOf_ascii_item hi e fun h' a b => q h' _ _ hi a b
    · rw [if_neg ha] at hi q
      exact wpAny_nextOf_wide_item hi e fun h' a b => q h' _ _ hi a b
theorem stop {Q : Value → Shared → Prop} (hh : A.handled = none) (hi : c.iter s.heap it i) (ho : c.on s.heap) (le : c.size ≤ i) (q : ∀ h' e, Heap.ExtBut it s.heap h' → (∃ o, h'.get? e = some o ∧ o.cls = .type "StopIteration") → E (.ref e) { s with heap := h' }) :
    wpAny (model prog w) A (Builtin.SmallTypes.nextOf (.ref it)) Q E s := by
  cases c with
  | l a xs => exact wpAny_nextOf_list_end hh hi ho (Array.getElem?_eq_none le) q
  | t a xs => exact RZ.nextOf_tuple_end hh hi ho (Array.getElem?_eq_none le) q
  | s z u =>
    have e := Array.getElem?_eq_none (xs := z.cps) le
    have hi : s.heap.IsStrIter it (strIterType z) z u i := hi
    unfold strIterType at hi
    by_cases ha : z.cps.all (· < 128) = true
    · rw [if_pos ha] at hi
      exact wpAny_nextOf_ascii_end hh hi e q
    · rw [if_neg ha] at hi
      exact wpAny_nextOf_wide_end hh hi e q
theorem iterate {Q : Value → Shared → Prop} (ho : c.on s.heap) (q : Q (.ref s.heap.objs.size) { s with heap := s.heap.push c.itO }) : wpAny (model prog w) A (pyIter c.val) Q E s := by
  cases c with
  | l a xs => exact wpAny_pyIter_list ho q
  | t a xs => exact wpAny_pyIter_tuple ho q
  | s z u => exact wpAny_pyIter_strU q
end Src
end DL
end

section
set_option maxHeartbeats 4000000
namespace DL
open PySem PySem.Spec PyProof.Rows L2
/-! ## zip of two sources -/
structure Apart5 (z TI TO i1 i2 : Addr) : Prop where
  TIz : TI ≠ z
  TOz : TO ≠ z
  i1z : i1 ≠ z
  i2z : i2 ≠ z
  TITO : TI ≠ TO
  TIi1 : TI ≠ i1
  TIi2 : TI ≠ i2
  TOi1 : TO ≠ i1
  TOi2 : TO ≠ i2
  i12 : i1 ≠ i2
def Off (c : Src) (z TO i1 i2 : Addr) : Prop := ∀ b, c.base b → b ≠ z ∧ b ≠ TO ∧ b ≠ i1 ∧ b ≠ i2
abbrev ZPair (h : Heap) (T : Addr) (a b : Value) : Prop := h.get? T = some { cls := .type "tuple", data := .seq #[a, b] }
section
variable {prog : Program} {w : World} {A : Around} {E : Value → Shared → Prop} {s : Shared} {z TI TO i1 i2 : Addr} {c1 c2 : Src} {k : Nat} {a b : Value}
theorem free_zip {Q : Bool → Shared → Prop} (hz : IsZip s.heap z TI TO .none) (q : Q true s) : wpAny (model prog w) A (Builtin.SmallTypes.ownedTupleIsFree (.ref z)) Q E s := by
  unfold Builtin.SmallTypes.ownedTupleIsFree
  exact wpAny_bind (wpAny_field hz rfl (x := .none) rfl (wpAny_pure q))
theorem zip_item {Q : Value → Shared → Prop} (D : Apart5 z TI TO i1 i2) (f1 : Off c1 z TO i1 i2) (f2 : Off c2 z TO i1 i2) (hz : IsZip s.heap z TI TO .none) (hTI : ZPair s.heap TI (.ref i1) (.ref i2)) (hTO : ZPair s.heap TO a b)
    (p1 : c1.iter s.heap i1 k) (p2 : c2.iter s.heap i2 k) (o1 : c1.on s.heap) (o2 : c2.on s.heap) (l1 : k < c1.size) (l2 : k < c2.size)
    (q : ∀ h' tk (T : Addr) x y, c1.item k x → c2.item k y → IsZip h' z TI TO (rawInt T) → ZPair h' TO x y → c1.iter h' i1 (k + 1) → c2.iter h' i2 (k + 1) → ZPair h' T x y → T = s.heap.objs.size → h'.objs.size = s.heap.objs.size + 1 →
      (∀ c o, c ≠ z → c ≠ TO → c ≠ i1 → c ≠ i2 → s.heap.get? c = some o → h'.get? c = some o) → Q (.ref T) { s with heap := h', toks := tk }) :
    wpAny (model prog w) A (Builtin.«zip.__next__» ⟨[.ref z], []⟩) (fun fin s' => ∃ v, fin = .done (.ret v) ∧ Q v s') E s := by
  show wpAny _ _ (field (.ref z) 2 >>= _) _ _ _
  refine wpAny_bind (wpAny_field hz rfl (x := .bool false) rfl (show wpAny _ _ (field (.ref z) 3 >>= _) _ _ _ from wpAny_bind (wpAny_field hz rfl (x := .ref TI) rfl (wpAny_bind (wpAny_seqItems hTI rfl ?_)))))
  show wpAny _ _ (Builtin.SmallTypes.ownedTupleIsFree (.ref z) >>= _) _ _ _
  refine wpAny_bind (free_zip hz ?_)
  rw [if_pos rfl]
  refine wpAny_bind (wpAny_rule (wpAny_bind (wpAny_field hz rfl (x := .ref TO) rfl (wpAny_bind (wpAny_setField_rec hz (by simp) fun h1 hz1 s1 => wpAny_bind ?_)))))
  replace hz1 : IsZip h1 z TI TO .ellipsis := hz1
  simp only [List.zipIdx_cons, List.zipIdx_nil, List.forIn_cons, List.forIn_nil]
  refine wpAny_bind (wpAny_bind (wpAny_onRaise (show wpAny _ _ (Builtin.SmallTypes.nextOf (.ref i1) >>= _) _ _ _ from wpAny_bind (Src.next (p1.to fun o e => s1.extBut _ _ D.i1z e) (o1.to fun b hb o e => s1.extBut _ _ (f1 b hb).1 e) l1 fun x h2 tk2 it1 p1' s2 => wpAny_pure ?_))))
  have t2 : ZPair h2 TO a b := s2.extBut _ _ D.TOi1 (s1.extBut _ _ D.TOz hTO)
  refine wpAny_bind (wpAny_seqItems t2 rfl (wpAny_bind (wpAny_updateSeq_pair t2 fun h3 t3 s3 => wpAny_bind (wpAny_letGo (wpAny_pure ?_)))))
  replace t3 : ZPair h3 TO x b := t3
  have up3 : ∀ c o, c ≠ z → c ≠ i1 → c ≠ TO → s.heap.get? c = some o → h3.get? c = some o := fun c o n1 n2 n3 e => s3.extBut _ _ n3 (s2.extBut _ _ n2 (s1.extBut _ _ n1 e))
  refine wpAny_bind (wpAny_bind (wpAny_onRaise (show wpAny _ _ (Builtin.SmallTypes.nextOf (.ref i2) >>= _) _ _ _ from wpAny_bind (Src.next (p2.to fun o e => up3 _ _ D.i2z D.i12.symm D.TOi2.symm e)
    (o2.to fun b hb o e => up3 _ _ (f2 b hb).1 (f2 b hb).2.2.1 (f2 b hb).2.1 e) l2 fun y h4 tk4 it2 p2' s4 => wpAny_pure ?_))))
  have t4 : ZPair h4 TO x b := s4.extBut _ _ D.TOi2 t3
  refine wpAny_bind (wpAny_seqItems t4 rfl (wpAny_bind (wpAny_updateSeq_pair t4 fun h5 t5 s5 => wpAny_bind (wpAny_letGo (wpAny_pure (wpAny_pure ?_))))))
  replace t5 : ZPair h5 TO x y := t5
  have sz : h5.objs.size = s.heap.objs.size := by rw [s5.1, s4.1, s3.1, s2.1, s1.1]
  have hz5 : IsZip h5 z TI TO .ellipsis := s5.extBut _ _ D.TOz.symm (s4.extBut _ _ D.i2z.symm (s3.extBut _ _ D.TOz.symm (s2.extBut _ _ D.i1z.symm hz1)))
  have up5 : ∀ c o, c ≠ z → c ≠ TO → c ≠ i1 → c ≠ i2 → s.heap.get? c = some o → h5.get? c = some o := fun c o n1 n2 n3 n4 e => s5.extBut _ _ n2 (s4.extBut _ _ n4 (up3 c o n1 n3 n2 e))
  have r1 : c1.iter h5 i1 (k + 1) := p1'.to fun o e => s5.extBut _ _ D.TOi1.symm (s4.extBut _ _ D.i12 (s3.extBut _ _ D.TOi1.symm e))
  have r2 : c2.iter h5 i2 (k + 1) := p2'.to fun o e => s5.extBut _ _ D.TOi2.symm e
  refine wpAny_bind (wpAny_seqItems t5 rfl (wpAny_bind (wpAny_newTuple ?_)))
  show wpAny _ _ (Builtin.SmallTypes.ownedTupleHandOut (.ref z) (.ref h5.objs.size) >>= _) _ _ _
  have hz6 : IsZip (h5.push { cls := .type "tuple", data := .seq #[x, y] }) z TI TO .ellipsis := Heap.get?_push_of_some _ hz5
  have zlt : z < h5.objs.size := Heap.lt_size hz5
  refine wpAny_bind (by
    unfold Builtin.SmallTypes.ownedTupleHandOut
    refine wpAny_bind (wpAny_setField_rec hz6 (by simp) fun h7 hz7 s7 => ?_)
    replace hz7 : IsZip h7 z TI TO (rawInt h5.objs.size) := hz7
    refine wpAny_setField_rec hz7 (by simp) fun h8 hz8 s8 => ?_
    replace hz8 : IsZip h8 z TI TO (rawInt h5.objs.size) := hz8
    have up8 : ∀ c o, c ≠ z → (h5.push { cls := .type "tuple", data := .seq #[x, y] }).get? c = some o → h8.get? c = some o := fun c o n e => s8.extBut _ _ n (s7.extBut _ _ n e)
    have nT : ZPair h8 h5.objs.size x y := up8 _ _ (Nat.ne_of_gt zlt) (Heap.get?_push_size _ rfl)
    have z8 : h8.objs.size = h5.objs.size + 1 := by rw [s8.1, s7.1, Heap.size_push]
    refine wpAny_pure ⟨_, rfl, q h8 _ h5.objs.size x y it1 it2 hz8 (up8 _ _ D.TOz (Heap.get?_push_of_some _ t5)) (r1.to fun o e => up8 _ _ D.i1z (Heap.get?_push_of_some _ e)) (r2.to fun o e => up8 _ _ D.i2z (Heap.get?_push_of_some _ e)) nT sz (by rw [z8, sz])
      fun c o n1 n2 n3 n4 e => up8 c o n1 (Heap.get?_push_of_some _ (up5 c o n1 n2 n3 n4 e))⟩)
theorem zip_stop {Q : Fin → Shared → Prop} (hh : A.handled = none) (D : Apart5 z TI TO i1 i2) (f1 : Off c1 z TO i1 i2) (f2 : Off c2 z TO i1 i2) (hz : IsZip s.heap z TI TO .none) (hTI : ZPair s.heap TI (.ref i1) (.ref i2)) (hTO : ZPair s.heap TO a b)
    (p1 : c1.iter s.heap i1 k) (p2 : c2.iter s.heap i2 k) (o1 : c1.on s.heap) (o2 : c2.on s.heap) (le : c1.size ≤ k ∨ c2.size ≤ k)
    (q : ∀ h' tk e, (∀ c o, c ≠ z → c ≠ TO → c ≠ i1 → c ≠ i2 → s.heap.get? c = some o → h'.get? c = some o) → (∃ o, h'.get? e = some o ∧ o.cls = .type "StopIteration") → E (.ref e) { s with heap := h', toks := tk }) :
    wpAny (model prog w) A (Builtin.«zip.__next__» ⟨[.ref z], []⟩) Q E s := by
  show wpAny _ _ (field (.ref z) 2 >>= _) _ _ _
  refine wpAny_bind (wpAny_field hz rfl (x := .bool false) rfl (show wpAny _ _ (field (.ref z) 3 >>= _) _ _ _ from wpAny_bind (wpAny_field hz rfl (x := .ref TI) rfl (wpAny_bind (wpAny_seqItems hTI rfl ?_)))))
  show wpAny _ _ (Builtin.SmallTypes.ownedTupleIsFree (.ref z) >>= _) _ _ _
  refine wpAny_bind (free_zip hz ?_)
  rw [if_pos rfl]
  refine wpAny_bind (wpAny_rule (wpAny_bind (wpAny_field hz rfl (x := .ref TO) rfl (wpAny_bind (wpAny_setField_rec hz (by simp) fun h1 hz1 s1 => wpAny_bind ?_)))))
  replace hz1 : IsZip h1 z TI TO .ellipsis := hz1
  simp only [List.zipIdx_cons, List.zipIdx_nil, List.forIn_cons, List.forIn_nil]
  have nz : ∀ {h : Heap} {e : Addr}, IsZip h z TI TO .ellipsis → (∃ o, h.get? e = some o ∧ o.cls = .type "StopIteration") → e ≠ z := fun {h e} hz ⟨o, ho, hc⟩ x => by
    subst x
    rw [hz] at ho
    cases ho
    simp at hc
  by_cases l1 : c1.size ≤ k
  · refine wpAny_bind (wpAny_bind (wpAny_onRaise (show wpAny _ _ (Builtin.SmallTypes.nextOf (.ref i1) >>= _) _ _ _ from wpAny_bind (Src.stop hh (p1.to fun o e => s1.extBut _ _ D.i1z e) (o1.to fun b hb o e => s1.extBut _ _ (f1 b hb).1 e) l1 fun h2 e s2 he => ?_))))
    have hz2 : IsZip h2 z TI TO .ellipsis := s2 _ _ D.i1z.symm hz1
    obtain ⟨oe, hoe, hce⟩ := id he
    exact wpAny_setField_rec hz2 (by simp) fun h3 _ s3 => q h3 _ e (fun c o n1 n2 n3 n4 x => s3.extBut _ _ n1 (s2 _ _ n3 (s1.extBut _ _ n1 x))) ⟨oe, s3.extBut _ _ (nz (h := h2) hz2 he) hoe, hce⟩
  · have l2 : c2.size ≤ k := le.elim (fun x => absurd x l1) id
    refine wpAny_bind (wpAny_bind (wpAny_onRaise (show wpAny _ _ (Builtin.SmallTypes.nextOf (.ref i1) >>= _) _ _ _ from wpAny_bind (Src.next (p1.to fun o e => s1.extBut _ _ D.i1z e) (o1.to fun b hb o e => s1.extBut _ _ (f1 b hb).1 e) (Nat.lt_of_not_le l1) fun x h2 tk2 it1 p1' s2 => wpAny_pure ?_))))
    have t2 : ZPair h2 TO a b := s2.extBut _ _ D.TOi1 (s1.extBut _ _ D.TOz hTO)
    refine wpAny_bind (wpAny_seqItems t2 rfl (wpAny_bind (wpAny_updateSeq_pair t2 fun h3 t3 s3 => wpAny_bind (wpAny_letGo (wpAny_pure ?_)))))
    have up3 : ∀ c o, c ≠ z → c ≠ i1 → c ≠ TO → s.heap.get? c = some o → h3.get? c = some o := fun c o n1 n2 n3 e => s3.extBut _ _ n3 (s2.extBut _ _ n2 (s1.extBut _ _ n1 e))
    have hz3 : IsZip h3 z TI TO .ellipsis := s3.extBut _ _ D.TOz.symm (s2.extBut _ _ D.i1z.symm hz1)
    refine wpAny_bind (wpAny_bind (wpAny_onRaise (show wpAny _ _ (Builtin.SmallTypes.nextOf (.ref i2) >>= _) _ _ _ from wpAny_bind (Src.stop hh (p2.to fun o e => up3 _ _ D.i2z D.i12.symm D.TOi2.symm e)
      (o2.to fun b hb o e => up3 _ _ (f2 b hb).1 (f2 b hb).2.2.1 (f2 b hb).2.1 e) l2 fun h4 e s4 he => ?_))))
    have hz4 : IsZip h4 z TI TO .ellipsis := s4 _ _ D.i2z.symm hz3
    obtain ⟨oe, hoe, hce⟩ := id he
    exact wpAny_setField_rec hz4 (by simp) fun h5 _ s5 => q h5 _ e (fun c o n1 n2 n3 n4 x => s5.extBut _ _ n1 (s4 _ _ n4 (up3 _ _ n1 n3 n2 x))) ⟨oe, s5.extBut _ _ (nz (h := h4) hz4 he) hoe, hce⟩
theorem zip_next {Q : Option Value → Shared → Prop} (D : Apart5 z TI TO i1 i2) (f1 : Off c1 z TO i1 i2) (f2 : Off c2 z TO i1 i2) (hz : IsZip s.heap z TI TO .none) (hTI : ZPair s.heap TI (.ref i1) (.ref i2)) (hTO : ZPair s.heap TO a b)
    (p1 : c1.iter s.heap i1 k) (p2 : c2.iter s.heap i2 k) (o1 : c1.on s.heap) (o2 : c2.on s.heap) (l1 : k < c1.size) (l2 : k < c2.size)
    (q : ∀ h' tk (T : Addr) x y, c1.item k x → c2.item k y → IsZip h' z TI TO (rawInt T) → ZPair h' TO x y → c1.iter h' i1 (k + 1) → c2.iter h' i2 (k + 1) → ZPair h' T x y → T = s.heap.objs.size → h'.objs.size = s.heap.objs.size + 1 →
      (∀ c o, c ≠ z → c ≠ TO → c ≠ i1 → c ≠ i2 → s.heap.get? c = some o → h'.get? c = some o) → Q (some (.ref T)) { s with heap := h', toks := tk }) :
    wpAny (model prog w) A (pyNext (.ref z)) Q E s := by
  have ty : s.TypeIs (.ref z) "zip" := ⟨_, hz, rfl⟩
  unfold pyNext
  exact wpAny_bind (wpAny_attempt (wpAny_callSpecial?_slot (name := Str.ofString "__next__") ty PySem.F.slot_zip_next (wpAny_call_entry PySem.F.slot_zip_next ty PySem.F.entry_zip_next
    (zip_item D f1 f2 hz hTI hTO p1 p2 o1 o2 l1 l2 fun h' tk T x y a1 a2 a3 a4 a5 a6 a7 a8 a9 a10 => wpAny_pure (q h' tk T x y a1 a2 a3 a4 a5 a6 a7 a8 a9 a10)) (PySem.F.args_zip_next_1 _))))
theorem zip_end {Q : Option Value → Shared → Prop} (hh : A.handled = none) (D : Apart5 z TI TO i1 i2) (f1 : Off c1 z TO i1 i2) (f2 : Off c2 z TO i1 i2) (hz : IsZip s.heap z TI TO .none) (hTI : ZPair s.heap TI (.ref i1) (.ref i2)) (hTO : ZPair s.heap TO a b)
    (p1 : c1.iter s.heap i1 k) (p2 : c2.iter s.heap i2 k) (o1 : c1.on s.heap) (o2 : c2.on s.heap) (le : c1.size ≤ k ∨ c2.size ≤ k)
    (q : ∀ h' tk, (∀ c o, c ≠ z → c ≠ TO → c ≠ i1 → c ≠ i2 → s.heap.get? c = some o → h'.get? c = some o) → Q none { s with heap := h', toks := tk }) :
    wpAny (model prog w) A (pyNext (.ref z)) Q E s := by
  have ty : s.TypeIs (.ref z) "zip" := ⟨_, hz, rfl⟩
  unfold pyNext
  refine wpAny_bind (wpAny_attempt (wpAny_callSpecial?_slot (name := Str.ofString "__next__") ty PySem.F.slot_zip_next (wpAny_call_entry PySem.F.slot_zip_next ty PySem.F.entry_zip_next
    (zip_stop (by simpa using hh) D f1 f2 hz hTI hTO p1 p2 o1 o2 le fun h' tk e k2 he => ?_) (PySem.F.args_zip_next_1 _))))
  obtain ⟨o, ho, hc⟩ := he
  exact wpAny_bind (wpAny_isInstance (T := "StopIteration") (b := true) ⟨o, ho, hc⟩ isSubtype_stop (wpAny_pure (q _ tk k2)))
end
end DL
end

section
set_option maxHeartbeats 4000000
namespace DL
open PySem PySem.Spec PyProof.Rows L2
theorem size_push1 (h : Heap) (o : Obj) : (h.push o).objs.size = h.objs.size + 1 := Heap.size_push ..
abbrev zpA (h : Heap) (c : Src) : Heap := h.push c.itO
abbrev zpB (h : Heap) (c d : Src) : Heap := (zpA h c).push d.itO
abbrev zpC (h : Heap) (c d : Src) : Heap := (zpB h c d).push { cls := .type "tuple", data := .seq #[.ref h.objs.size, .ref (zpA h c).objs.size] }
abbrev zpD (h : Heap) (c d : Src) : Heap := (zpC h c d).push { cls := .type "tuple", data := .seq #[.none, .none] }
abbrev zpE (h : Heap) (c d : Src) : Heap := (zpD h c d).push { cls := .type "zip", data := .fields #[.none, .bool false, .bool false, .ref (zpB h c d).objs.size, .ref (zpC h c d).objs.size] }
theorem zip_new (c d : Src) : Meets (Builtin.«zip.__new__» ⟨[.type "zip", c.val, d.val], []⟩) (fun _ R s => c.on s.heap ∧ d.on s.heap ∧ R (.ok (.ret (.ref (zpD s.heap c d).objs.size))) { s with heap := zpE s.heap c d }) :=
  .of_wp fun prog w A R s ⟨hc, hd, h⟩ => by
    obtain ⟨hp, g, dr, tk, os⟩ := s
    have sb := sub_zip
    have oc : c.on (Shared.heap ⟨hp, g, dr, tk, os⟩) := hc
    have od : d.on (Shared.heap ⟨hp.push c.itO, g, dr, tk, os⟩) := hd.to fun b _ o e => Heap.get?_push_of_some _ e
    wp_walk using Src.iterate oc, Src.iterate od
    exact ⟨_, rfl, h⟩
section
variable {prog : Program} {w : World} {A : Around} {E : Value → Shared → Prop} {s : Shared}
theorem zip_call {c d : Src} {Q : Value → Shared → Prop} (hc : c.on s.heap) (hd : d.on s.heap)
    (q : ∀ h', IsZip h' (s.heap.objs.size + 4) (s.heap.objs.size + 2) (s.heap.objs.size + 3) .none → ZPair h' (s.heap.objs.size + 2) (.ref s.heap.objs.size) (.ref (s.heap.objs.size + 1)) → ZPair h' (s.heap.objs.size + 3) .none .none →
      c.iter h' s.heap.objs.size 0 → d.iter h' (s.heap.objs.size + 1) 0 → (∀ b o, s.heap.get? b = some o → h'.get? b = some o) → Q (.ref (s.heap.objs.size + 4)) { s with heap := h' }) :
    wpAny (model prog w) A (call (.type "zip") [c.val, d.val]) Q E s := by
  refine callType_new PySem.F.called_zip (by decide) (PySem.F.typeCall_zip_2 _ _) (PySem.F.newCall_zip_2 _ _) (fun obj => PySem.F.args_object_init_3 obj _ _) PySem.F.entry_zip_new (zip_new c d) ⟨hc, hd, ?_⟩
  have z1 : (zpA s.heap c).objs.size = s.heap.objs.size + 1 := size_push1 _ _
  have z2 : (zpB s.heap c d).objs.size = s.heap.objs.size + 2 := (size_push1 _ _).trans (congrArg Nat.succ z1)
  have z3 : (zpC s.heap c d).objs.size = s.heap.objs.size + 3 := (size_push1 _ _).trans (congrArg Nat.succ z2)
  have z4 : (zpD s.heap c d).objs.size = s.heap.objs.size + 4 := (size_push1 _ _).trans (congrArg Nat.succ z3)
  have up : ∀ (h : Heap) (x o : Obj) b, h.get? b = some o → (h.push x).get? b = some o := fun h x o b e => Heap.get?_push_of_some _ e
  have g1 : c.iter (zpE s.heap c d) s.heap.objs.size 0 := (Src.iter.at0 s.heap).to fun o e => up _ _ _ _ (up _ _ _ _ (up _ _ _ _ (up _ _ _ _ e)))
  have g2 : d.iter (zpE s.heap c d) (zpA s.heap c).objs.size 0 := (Src.iter.at0 (zpA s.heap c)).to fun o e => up _ _ _ _ (up _ _ _ _ (up _ _ _ _ e))
  have g3 : (zpE s.heap c d).get? (zpB s.heap c d).objs.size = some { cls := .type "tuple", data := .seq #[.ref s.heap.objs.size, .ref (zpA s.heap c).objs.size] } := up _ _ _ _ (up _ _ _ _ (Heap.get?_push_size _ rfl))
  have g4 : (zpE s.heap c d).get? (zpC s.heap c d).objs.size = some { cls := .type "tuple", data := .seq #[.none, .none] } := up _ _ _ _ (Heap.get?_push_size _ rfl)
  have g5 : (zpE s.heap c d).get? (zpD s.heap c d).objs.size = some { cls := .type "zip", data := .fields #[.none, .bool false, .bool false, .ref (zpB s.heap c d).objs.size, .ref (zpC s.heap c d).objs.size] } := Heap.get?_push_size _ rfl
  show _ ∧ _
  rw [z1] at g2 g3
  rw [z2] at g3 g5
  rw [z3] at g4 g5
  rw [z4] at g5 ⊢
  exact ⟨⟨_, g5, rfl⟩, q _ g5 g3 g4 g1 g2 fun b o e => up _ _ _ _ (up _ _ _ _ (up _ _ _ _ (up _ _ _ _ (up _ _ _ _ e))))⟩
end
/-! by values: what is walked -/
inductive SV where
  | l (a : Addr)
  | t (a : Addr)
  | s (z : Str)
namespace SV
def has (K : PySem.W.Frag) (H : Hp) : SV → List V → Prop
  | .l a, xs => SqL K H a xs
  | .t a, xs => SqT K H a xs
  | .s z, xs => xs = (sgs z).map V.str
def v : SV → V
  | .l a => .ref a
  | .t a => .ref a
  | .s z => .str z
def src (u : Tok) (its : Array Value) : SV → Src
  | .l a => .l a its
  | .t a => .t a its
  | .s z => .s z u
theorem iter_any {c : SV} {u : Tok} {its its' : Array Value} {h : Heap} {it : Addr} {i : Nat} (k : (c.src u its).iter h it i) : (c.src u its').iter h it i := by cases c <;> exact k
variable {X : Cx} {pins : List (Addr × Obj)} {σ : L2.St} {H : Hp} {s : Shared} {c : SV} {xs ys : List V}
theorem get (I : Inv X pins σ H s) (h : c.has X.K H xs) (u : Tok) : ∃ its : Array Value, (c.src u its).on s.heap ∧ (c.src u its).size = xs.length ∧ ∀ i y, (c.src u its).item i y → ∃ x, xs[i]? = some x ∧ RelV x y := by
  cases c with
  | l a =>
    obtain ⟨its, rv, p, _⟩ := I.list h
    refine ⟨its.toArray, p.isList, (List.size_toArray ..).trans rv.length.symm, fun i y e => ?_⟩
    have e : its[i]? = some y := by have e : its.toArray[i]? = some y := e; simpa using e
    have lt : i < xs.length := by rw [rv.length]; exact (List.getElem?_eq_some_iff.mp e).1
    obtain ⟨w, ew, rw'⟩ := rv.get (List.getElem?_eq_getElem lt)
    rw [e] at ew; cases ew
    exact ⟨_, List.getElem?_eq_getElem lt, rw'⟩
  | t a =>
    obtain ⟨its, rv, p, _⟩ := I.tuple h
    refine ⟨its.toArray, p, (List.size_toArray ..).trans rv.length.symm, fun i y e => ?_⟩
    have e : its[i]? = some y := by have e : its.toArray[i]? = some y := e; simpa using e
    have lt : i < xs.length := by rw [rv.length]; exact (List.getElem?_eq_some_iff.mp e).1
    obtain ⟨w, ew, rw'⟩ := rv.get (List.getElem?_eq_getElem lt)
    rw [e] at ew; cases ew
    exact ⟨_, List.getElem?_eq_getElem lt, rw'⟩
  | s z =>
    have h : xs = (sgs z).map V.str := h
    subst h
    refine ⟨#[], trivial, by rw [List.length_map, sgs, List.length_map, Array.length_toList]; rfl, fun i y e => ?_⟩
    obtain ⟨c, t, e, rfl⟩ := e
    refine ⟨.str ⟨#[c]⟩, ?_, t, rfl⟩
    rw [List.getElem?_map, sgs, List.getElem?_map, Array.getElem?_toList, e]
    rfl
theorem inj (I : Inv X pins σ H s) (h : c.has X.K H xs) (h' : c.has X.K H ys) : xs = ys := by
  cases c with
  | l a => exact I.list_inj h h'
  | t a => exact I.tuple_inj h h'
  | s z => exact Eq.trans h (Eq.symm h')
end SV
/-- the items of two, in new pairs -/
def Izg (K : PySem.W.Frag) (c d : SV) : It :=
  ⟨fun i H => ∃ (xs ys : List V) (x y : V), c.has K H xs ∧ d.has K H ys ∧ xs[i]? = some x ∧ ys[i]? = some y,
   fun i H v H' => ∃ T x y, v = .ref T ∧ H T = none ∧ H' = upd H T (.tup [x, y]) ∧ (∀ xs, c.has K H xs → xs[i]? = some x) ∧ ∀ ys, d.has K H ys → ys[i]? = some y,
   fun i H => ∃ xs ys : List V, c.has K H xs ∧ d.has K H ys ∧ (xs.length ≤ i ∨ ys.length ≤ i)⟩
/-- where the sources stand, apart from the five new objects -/
def SV.apart (c : SV) (f : List Addr) : Prop := match c with
  | .l a => a ∉ f
  | .t a => a ∉ f
  | .s _ => True
theorem SV.apart.off {c : SV} {z TI TO i1 i2 : Addr} (h : c.apart [z, TI, TO, i1, i2]) (u : Tok) (its : Array Value) : Off (c.src u its) z TO i1 i2 := by
  cases c with
  | l a =>
    rintro b rfl
    have h : b ∉ [z, TI, TO, i1, i2] := h
    simp at h
    exact ⟨h.1, h.2.2.1, h.2.2.2.1, h.2.2.2.2⟩
  | t a =>
    rintro b rfl
    have h : b ∉ [z, TI, TO, i1, i2] := h
    simp at h
    exact ⟨h.1, h.2.2.1, h.2.2.2.1, h.2.2.2.2⟩
  | s z => exact fun _ q => q.elim
theorem turn_zg {P : Program} {w : World} {K : PySem.W.Frag} {elts : List Expr} {kk : Nat} {tpos : Pos} {z TI TO i1 i2 : Addr} {c d : SV} {u u' : Tok} (D : Apart5 z TI TO i1 i2) (f1 : c.apart [z, TI, TO, i1, i2]) (f2 : d.apart [z, TI, TO, i1, i2]) :
    Turn P w K (.Tuple elts kk tpos) (Izg K c d) [z, TI, TO, i1, i2] z (fun i h => IsZip h z TI TO .none ∧ ZPair h TI (.ref i1) (.ref i2) ∧ (∃ x y, ZPair h TO x y) ∧ (c.src u #[]).iter h i1 i ∧ (d.src u' #[]).iter h i2 i) where
  mem := List.mem_cons_self
  obj := fun i h ⟨hz, hTI, ⟨x, y, hTO⟩, p1, p2⟩ b hb => by
    simp only [List.mem_cons, List.not_mem_nil, or_false] at hb
    rcases hb with rfl | rfl | rfl | rfl | rfl
    · exact ⟨_, hz, fun _ q => nomatch q⟩
    · exact ⟨_, hTI, fun _ q => nomatch q⟩
    · exact ⟨_, hTO, fun _ q => nomatch q⟩
    · exact p1.ob
    · exact p2.ob
  keep := fun i h h' ⟨hz, hTI, ⟨x, y, hTO⟩, p1, p2⟩ k => ⟨k z (by simp) _ hz, k TI (by simp) _ hTI, ⟨x, y, k TO (by simp) _ hTO⟩, p1.to fun o e => k i1 (by simp) o e, p2.to fun o e => k i2 (by simp) o e⟩
  item := by
    rintro X rfl rfl rfl hc i pins s σ H E I hf ⟨hz, hTI, ⟨x0, y0, hTO⟩, p1, p2⟩ ⟨xs, ys, x, y, hx, hy, ex, ey⟩
    obtain ⟨its, on1, sz1, it1⟩ := SV.get I hx u
    obtain ⟨its2, on2, sz2, it2⟩ := SV.get I hy u'
    have zlt : z < s.heap.objs.size := Heap.lt_size hz
    refine zip_next D (f1.off u its) (f2.off u' its2) hz hTI hTO (SV.iter_any p1) (SV.iter_any p2) on1 on2 (by rw [sz1]; exact (List.getElem?_eq_some_iff.mp ex).1) (by rw [sz2]; exact (List.getElem?_eq_some_iff.mp ey).1)
      fun h1 tk T v1 v2 m1 m2 hz1 hTO1 q1 q2 nT eT hsz k1 => ?_
    subst eT
    obtain ⟨x', ex', r1⟩ := it1 i v1 m1
    obtain ⟨y', ey', r2⟩ := it2 i v2 m2
    rw [ex] at ex'; cases ex'
    rw [ey] at ey'; cases ey'
    refine ⟨_, rfl, wpAny_letOwnedTupleGo_zip (s := { s with heap := h1, toks := tk }) hz1 fun h2 hz2 sb => ?_⟩
    have nT2 : ZPair h2 s.heap.objs.size v1 v2 := (sb.2 _ (Nat.ne_of_gt zlt)).trans nT
    have ok : ObjOk X.prog X.w (upd H s.heap.objs.size (.tup [x, y])) h2 s.heap.objs.size (.tup [x, y]) := ⟨by show 2 ≤ sizeLine; decide, [v1, v2], .cons r1 (.cons r2 .nil), ⟨_, nT2, rfl, _, rfl⟩⟩
    have stay : ∀ b o, b ∉ [z, TI, TO, i1, i2] → s.heap.get? b = some o → h2.get? b = some o := fun b o hb e => by
      simp at hb
      exact (sb.2 b hb.1).trans (k1 b o hb.1 hb.2.2.1 hb.2.2.2.1 hb.2.2.2.2 e)
    have J : Inv X pins σ (upd H s.heap.objs.size (.tup [x, y])) { s with heap := h2, toks := tk } := I.turnedNew (ch := [z, TI, TO, i1, i2]) stay hf (Nat.le_refl _) ok
    refine ⟨.ref s.heap.objs.size, _, J, rfl, ⟨_, x, y, rfl, I.hok.fresh (Nat.le_refl _), rfl, fun l hl => by rw [SV.inj I hl hx]; exact ex, fun l hl => by rw [SV.inj I hl hy]; exact ey⟩,
      ⟨hz2, (sb.2 _ D.TIz).trans (k1 _ _ D.TIz D.TITO D.TIi1 D.TIi2 hTI), ⟨v1, v2, (sb.2 _ D.TOz).trans hTO1⟩, SV.iter_any (q1.to fun o e => (sb.2 _ D.i1z).trans e), SV.iter_any (q2.to fun o e => (sb.2 _ D.i2z).trans e)⟩, fun b hb => ?_⟩
    have lt : b < s.heap.objs.size := by
      simp only [List.mem_cons, List.not_mem_nil, or_false] at hb
      rcases hb with rfl | rfl | rfl | rfl | rfl
      · exact zlt
      · exact Heap.lt_size hTI
      · exact Heap.lt_size hTO
      · exact p1.lt
      · exact p2.lt
    rw [upd_ne (Nat.ne_of_lt lt)]
    exact (hf b hb).1
  done := by
    rintro X rfl rfl rfl hc i pins s σ H E I hf ⟨hz, hTI, ⟨x0, y0, hTO⟩, p1, p2⟩ ⟨xs, ys, hx, hy, le⟩
    obtain ⟨its, on1, sz1, _⟩ := SV.get I hx u
    obtain ⟨its2, on2, sz2, _⟩ := SV.get I hy u'
    refine zip_end (I.ok.hd hc) D (f1.off u its) (f2.off u' its2) hz hTI hTO (SV.iter_any p1) (SV.iter_any p2) on1 on2 (by rw [sz1, sz2]; exact le) fun h1 tk k1 => ⟨rfl, I.turnedL (ch := [z, TI, TO, i1, i2]) (fun b o hb e => ?_) hf⟩
    simp at hb
    exact k1 b o hb.1 hb.2.2.1 hb.2.2.2.1 hb.2.2.2.2 e
  self := fun A i s Q E st h => wpAny_pyIter_zip st.1 h
def iZg (K : PySem.W.Frag) (ta : TA) : TI := fun σ H R => ta σ H fun vs H1 => ∃ (c d : SV) (xs ys : List V), vs = [c.v, d.v] ∧ c.has K H1 xs ∧ d.has K H1 ys ∧ R (Izg K c d) H1
theorem SV.rel {c : SV} {u : Value} (r : RelV c.v u) : ∃ t, ∀ its, u = (c.src t its).val := by
  cases c with
  | l a => cases r; exact ⟨0, fun _ => rfl⟩
  | t a => cases r; exact ⟨0, fun _ => rfl⟩
  | s z => obtain ⟨t, rfl⟩ := r; exact ⟨t, fun _ => rfl⟩
theorem SV.new {c : SV} {t : Tok} {its : Array Value} {h : Heap} (o : (c.src t its).on h) {f : List Addr} (hf : ∀ b ∈ f, h.objs.size ≤ b) : c.apart f := by
  cases c with
  | l a => exact fun m => Nat.lt_irrefl _ (Nat.lt_of_lt_of_le (o.lt a rfl) (hf a m))
  | t a => exact fun m => Nat.lt_irrefl _ (Nat.lt_of_lt_of_le (o.lt a rfl) (hf a m))
  | s z => trivial
theorem pi_zipG {X : Cx} {e e2 : Expr} {ta : TA} {p pos tpos : Pos} {elts : List Expr} {kk : Nat} (hg : Gl X "zip") (hm : X.mg "zip" = none) (ha : PA X [e, e2] ta)
    (hs : starEach [e, e2] X.env = (false, eval e X.env) :: starEach [e2] X.env := by rfl) (hpl : (backTo pos (starEach [e2] X.env)).any (·.1) = false := by rfl) :
    PI X (.Tuple elts kk tpos) (.Call (.Name "zip" p) [e, e2] [] pos) (iZg X.K ta) := by
  refine ⟨fun pins s σ H R I h => Call_ (ld_blt I hg hm PyProof.Rows.boot_zip (PyProof.Rows.callWith_type1 (thn (ha.run pos pins s σ H _ I h) fun us s1 ⟨vs, H1, I1, r1, c, d, xs, ys, ex, hx, hy, q⟩ => ?_) hs hpl))⟩
  subst ex
  obtain _ | ⟨ra, _ | ⟨rb, rc⟩⟩ := r1
  cases rc
  obtain ⟨t1, e1⟩ := SV.rel ra
  obtain ⟨t2, e2⟩ := SV.rel rb
  obtain ⟨its, on1, _⟩ := SV.get I1 hx t1
  obtain ⟨its2, on2, _⟩ := SV.get I1 hy t2
  rw [e1 its, e2 its2]
  refine zip_call on1 on2 fun h' hz hTI hTO p1 p2 k => wpAny_pyIter_zip hz ?_
  have ge : ∀ b, b ∈ [s1.heap.objs.size + 4, s1.heap.objs.size + 2, s1.heap.objs.size + 3, s1.heap.objs.size, s1.heap.objs.size + 1] → s1.heap.objs.size ≤ b := fun b hb => by
    simp only [List.mem_cons, List.not_mem_nil, or_false] at hb
    rcases hb with z | z | z | z | z <;> rw [z] <;> first | exact Nat.le_add_right _ _ | exact Nat.le_refl _
  have ne : ∀ (n m : Nat), n ≠ m → s1.heap.objs.size + n ≠ s1.heap.objs.size + m := fun n m h z => h (Nat.add_left_cancel z)
  have D : Apart5 (s1.heap.objs.size + 4) (s1.heap.objs.size + 2) (s1.heap.objs.size + 3) s1.heap.objs.size (s1.heap.objs.size + 1) :=
    ⟨ne 2 4 (by decide), ne 3 4 (by decide), ne 0 4 (by decide), ne 1 4 (by decide), ne 2 3 (by decide), ne 2 0 (by decide), ne 2 1 (by decide), ne 3 0 (by decide), ne 3 1 (by decide), ne 0 1 (by decide)⟩
  exact ⟨_, _, _, _, H1, rfl, I1.kept (t' := s1.toks) k, turn_zg (u := t1) (u' := t2) D (SV.new on1 ge) (SV.new on2 ge), ⟨hz, hTI, ⟨_, _, hTO⟩, SV.iter_any p1, SV.iter_any p2⟩, fun b hb => I1.fpOk (ge b hb) (I1.hok.fresh (ge b hb)), q⟩
end DL
end

section
set_option maxHeartbeats 4000000
namespace DL
open PySem PySem.Spec PyProof.Rows L2
/-! ## enumerate of a source -/
abbrev enA (h : Heap) (c : Src) : Heap := (h.push c.itO).push { cls := .type "enumerate", data := .fields #[.none, .bool false, .ref h.objs.size, rawInt 0, .none, .none] }
theorem enum_newT (l : Addr) (items : Array Value) (n : Nat) (dct : Option Addr) (sl : Array (Option Value)) :
    Meets (Builtin.«enumerate.__new__» ⟨[.type "enumerate", .ref l], []⟩) (fun _ R s => s.heap.get? l = some { cls := .type "tuple", dict := dct, data := .seq items n, slots := sl } ∧
      R (.ok (.ret (.ref (s.heap.push (Src.t l items).itO).objs.size))) { s with heap := enA s.heap (.t l items) }) :=
  .of_wp fun prog w A R s ⟨hl, h⟩ => by
    obtain ⟨hp, g, dr, tk, os⟩ := s
    have sb := sub_enumerate
    have onL : Heap.IsTuple (Shared.heap ⟨hp, g, dr, tk, os⟩) l items := ⟨_, hl, rfl, n, rfl⟩
    wp_walk using wpAny_loadPart' hl
    refine wpAny_stack_any fun st => wpAny_pure ?_
    split
    · rename_i c _ _ _ _ _
      cases (c == Value.type "enumerate") <;> (wp_walk using wpAny_loadPart' hl, wpAny_pyIter_tuple onL; exact ⟨_, rfl, h⟩)
    · wp_walk using wpAny_loadPart' hl, wpAny_pyIter_tuple onL
      exact ⟨_, rfl, h⟩
section
variable {prog : Program} {w : World} {A : Around} {E : Value → Shared → Prop} {s : Shared}
theorem enum_call {c : Src} {Q : Value → Shared → Prop} (hc : c.on s.heap)
    (q : ∀ h', IsEnum h' (s.heap.objs.size + 1) s.heap.objs.size 0 .none → c.iter h' s.heap.objs.size 0 → (∀ b o, s.heap.get? b = some o → h'.get? b = some o) → Q (.ref (s.heap.objs.size + 1)) { s with heap := h' }) :
    wpAny (model prog w) A (call (.type "enumerate") [c.val]) Q E s := by
  cases c with
  | l a xs => exact call_enumerate_list hc fun h' h1 h2 _ k => q h' h1 h2 k
  | s z u => exact call_enumerate_str fun h' h1 h2 _ k => q h' h1 h2 k
  | t a xs =>
    obtain ⟨⟨c, dct, dt, sl⟩, hl, ec, n, ed⟩ := hc
    have ec : c = .type "tuple" := ec
    have ed : dt = .seq xs n := ed
    subst ec ed
    refine callType_new PySem.F.called_enumerate (by decide) (PySem.F.typeCall_enumerate_1 _) (PySem.F.newCall_enumerate_1 _) (fun obj => PySem.F.args_object_init_2 obj _) PySem.F.entry_enumerate_new (enum_newT a xs n dct sl) ⟨hl, ?_⟩
    have z1 : (s.heap.push (Src.t a xs).itO).objs.size = s.heap.objs.size + 1 := size_push1 _ _
    have e1 : (enA s.heap (.t a xs)).get? (s.heap.push (Src.t a xs).itO).objs.size = some { cls := .type "enumerate", data := .fields #[.none, .bool false, .ref s.heap.objs.size, rawInt 0, .none, .none] } := Heap.get?_push_size _ rfl
    show _ ∧ _
    rw [z1] at e1 ⊢
    exact ⟨⟨_, e1, rfl⟩, q _ e1 ((Src.iter.at0 (c := .t a xs) s.heap).to fun o e => Heap.get?_push_of_some _ e) fun b o e => Heap.get?_push_of_some _ (Heap.get?_push_of_some _ e)⟩
end
end DL
end

section
set_option maxHeartbeats 4000000
namespace DL
open PySem PySem.Spec PyProof.Rows L2
section
variable {prog : Program} {w : World} {A : Around} {E : Value → Shared → Prop} {s : Shared} {e it : Addr} {c : Src} {k : Nat} {old : Value}
theorem enum_item {Q : Value → Shared → Prop} (he : IsEnum s.heap e it k old) (p : c.iter s.heap it k) (on : c.on s.heap) (off : ∀ b, c.base b → b ≠ e ∧ b ≠ it) (lt : k < c.size) (ne : e ≠ it)
    (q : ∀ h' tk (T : Addr) x t, c.item k x → IsEnumOut h' e it ((k : Int) + 1) x T → c.iter h' it (k + 1) → ZPair h' T (.int k t) x → T = s.heap.objs.size → h'.objs.size = s.heap.objs.size + 1 →
      (∀ b o, b ≠ e → b ≠ it → s.heap.get? b = some o → h'.get? b = some o) → Q (.ref T) { s with heap := h', toks := tk }) :
    wpAny (model prog w) A (Builtin.«enumerate.__next__» ⟨[.ref e], []⟩) (fun fin s' => ∃ v, fin = .done (.ret v) ∧ Q v s') E s := by
  obtain ⟨hp, g, d, tk0, os⟩ := s
  have elt : e < hp.objs.size := Heap.lt_size he
  show wpAny _ _ (field (.ref e) 2 >>= _) _ _ _
  refine wpAny_bind (wpAny_field he rfl (x := .ref it) rfl (wpAny_bind (Src.next p on lt fun x h1 tk im p1 s1 => ?_)))
  have he1 : IsEnum h1 e it k old := s1.extBut _ _ ne he
  show wpAny _ _ (field (.ref e) 3 >>= _) _ _ ⟨h1, g, d, tk, os⟩
  refine wpAny_bind (wpAny_field he1 rfl (x := rawInt k) rfl (show wpAny _ _ (field (.ref e) 4 >>= _) _ _ ⟨h1, g, d, tk, os⟩ from wpAny_bind (wpAny_field he1 rfl (x := .none) rfl ?_)))
  show wpAny _ _ (mkInt k >>= _) _ _ ⟨h1, g, d, tk, os⟩
  refine wpAny_bind (wpAny_mkInt (show wpAny _ _ (setField (.ref e) 3 (rawInt ((k : Int) + 1)) >>= _) _ _ ⟨h1, g, d, tk + 1, os⟩ from wpAny_bind (wpAny_setField_rec he1 (by simp) fun h2 he2 s2 => ?_)))
  replace he2 : IsEnum h2 e it ((k : Int) + 1) old := he2
  replace s2 : Heap.SameBut e h1 h2 := s2
  show wpAny _ _ (setField (.ref e) 4 .none >>= _) _ _ ⟨h2, g, d, tk + 1, os⟩
  refine wpAny_bind (wpAny_setField_rec he2 (by simp) fun h3 he3 s3 => ?_)
  replace he3 : IsEnum h3 e it ((k : Int) + 1) old := he3
  replace s3 : Heap.SameBut e h2 h3 := s3
  show wpAny _ _ (newTuple [.int k tk, x] >>= _) _ _ ⟨h3, g, d, tk + 1, os⟩
  refine wpAny_bind (wpAny_newTuple ?_)
  have sz : h3.objs.size = hp.objs.size := by rw [s3.1, s2.1, s1.1]
  have he4 : IsEnum (h3.push { cls := .type "tuple", data := .seq #[.int k tk, x] }) e it ((k : Int) + 1) old := Heap.get?_push_of_some _ he3
  have up3 : ∀ b o, b ≠ e → h1.get? b = some o → h3.get? b = some o := fun b o n q => s3.extBut _ _ n (s2.extBut _ _ n q)
  show wpAny _ _ (Builtin.SmallTypes.ownedTupleIsFree (.ref e) >>= _) _ _ ⟨h3.push { cls := .type "tuple", data := .seq #[.int k tk, x] }, g, d, tk + 1, os⟩
  refine wpAny_bind ?_
  unfold Builtin.SmallTypes.ownedTupleIsFree
  refine wpAny_bind (wpAny_field he4 rfl (x := .none) rfl (wpAny_pure ?_))
  rw [if_pos rfl]
  refine wpAny_bind (wpAny_rule (wpAny_bind (wpAny_field he4 rfl (x := old) rfl (wpAny_bind (wpAny_setField_rec he4 (by simp) fun h5 he5 s5 => ?_)))))
  replace he5 : IsEnum h5 e it ((k : Int) + 1) x := he5
  show wpAny _ _ (Builtin.SmallTypes.ownedTupleHandOut (.ref e) (.ref h3.objs.size) >>= _) _ _ ⟨h5, g, d, tk + 1, os⟩
  refine wpAny_bind ?_
  unfold Builtin.SmallTypes.ownedTupleHandOut
  refine wpAny_bind (wpAny_setField_rec he5 (by simp) fun h6 he6 s6 => ?_)
  replace he6 : IsEnumOut h6 e it ((k : Int) + 1) x h3.objs.size := he6
  refine wpAny_setField_rec he6 (by simp) fun h7 he7 s7 => ?_
  replace he7 : IsEnumOut h7 e it ((k : Int) + 1) x h3.objs.size := he7
  have up7 : ∀ b o, b ≠ e → (h3.push { cls := .type "tuple", data := .seq #[.int k tk, x] }).get? b = some o → h7.get? b = some o := fun b o n q => s7.extBut _ _ n (s6.extBut _ _ n (s5.extBut _ _ n q))
  have nT : ZPair h7 h3.objs.size (.int k tk) x := up7 _ _ (by rw [sz]; exact Nat.ne_of_gt elt) (Heap.get?_push_size _ rfl)
  have z7 : h7.objs.size = h3.objs.size + 1 := by rw [s7.1, s6.1, s5.1]; exact size_push1 _ _
  exact wpAny_bind (wpAny_letGo (wpAny_pure ⟨_, rfl, q h7 (tk + 1) h3.objs.size x tk im he7 (p1.to fun o q => up7 _ _ ne.symm (Heap.get?_push_of_some _ (up3 _ _ ne.symm q))) nT sz (by rw [z7, sz])
    fun b o n1 n2 q => up7 b o n1 (Heap.get?_push_of_some _ (up3 b o n1 (s1.extBut _ _ n2 q)))⟩))
theorem enum_next {Q : Option Value → Shared → Prop} (he : IsEnum s.heap e it k old) (p : c.iter s.heap it k) (on : c.on s.heap) (off : ∀ b, c.base b → b ≠ e ∧ b ≠ it) (lt : k < c.size) (ne : e ≠ it)
    (q : ∀ h' tk (T : Addr) x t, c.item k x → IsEnumOut h' e it ((k : Int) + 1) x T → c.iter h' it (k + 1) → ZPair h' T (.int k t) x → T = s.heap.objs.size → h'.objs.size = s.heap.objs.size + 1 →
      (∀ b o, b ≠ e → b ≠ it → s.heap.get? b = some o → h'.get? b = some o) → Q (some (.ref T)) { s with heap := h', toks := tk }) :
    wpAny (model prog w) A (pyNext (.ref e)) Q E s := by
  have ty : s.TypeIs (.ref e) "enumerate" := ⟨_, he, rfl⟩
  unfold pyNext
  exact wpAny_bind (wpAny_attempt (wpAny_callSpecial?_slot (name := Str.ofString "__next__") ty PySem.F.slot_enumerate_next (wpAny_call_entry PySem.F.slot_enumerate_next ty PySem.F.entry_enumerate_next
    (enum_item he p on off lt ne fun h' tk T x t a1 a2 a3 a4 a5 a6 a7 => wpAny_pure (q h' tk T x t a1 a2 a3 a4 a5 a6 a7)) (PySem.F.args_enumerate_next_1 _))))
theorem enum_end {Q : Option Value → Shared → Prop} (hh : A.handled = none) (he : IsEnum s.heap e it k old) (p : c.iter s.heap it k) (on : c.on s.heap) (le : c.size ≤ k)
    (q : ∀ h', Heap.ExtBut it s.heap h' → Q none { s with heap := h' }) : wpAny (model prog w) A (pyNext (.ref e)) Q E s := by
  have ty : s.TypeIs (.ref e) "enumerate" := ⟨_, he, rfl⟩
  unfold pyNext
  refine wpAny_bind (wpAny_attempt (wpAny_callSpecial?_slot (name := Str.ofString "__next__") ty PySem.F.slot_enumerate_next (wpAny_call_entry PySem.F.slot_enumerate_next ty PySem.F.entry_enumerate_next
    (show wpAny _ _ (field (.ref e) 2 >>= _) _ _ _ from wpAny_bind (wpAny_field he rfl (x := .ref it) rfl (wpAny_bind (Src.stop (by simpa using hh) p on le fun h' x s2 hx => ?_)))) (PySem.F.args_enumerate_next_1 _))))
  obtain ⟨o, ho, hc⟩ := hx
  exact wpAny_bind (wpAny_isInstance (T := "StopIteration") (b := true) ⟨o, ho, hc⟩ isSubtype_stop (wpAny_pure (q _ s2)))
end
/-- the items of one, each with its number -/
def Ieg (K : PySem.W.Frag) (c : SV) : It :=
  ⟨fun i H => ∃ (xs : List V) (x : V), c.has K H xs ∧ xs[i]? = some x,
   fun i H v H' => ∃ T x, v = .ref T ∧ H T = none ∧ H' = upd H T (.tup [.int (i : Nat), x]) ∧ ∀ xs, c.has K H xs → xs[i]? = some x,
   fun i H => ∃ xs : List V, c.has K H xs ∧ xs.length ≤ i⟩
theorem SV.apart.off2 {c : SV} {e it : Addr} (h : c.apart [e, it]) (u : Tok) (its : Array Value) : ∀ b, (c.src u its).base b → b ≠ e ∧ b ≠ it := by
  cases c with
  | l a => rintro b rfl; have h : b ∉ [e, it] := h; simpa using h
  | t a => rintro b rfl; have h : b ∉ [e, it] := h; simpa using h
  | s z => exact fun _ q => q.elim
theorem turn_eg {P : Program} {w : World} {K : PySem.W.Frag} {elts : List Expr} {kk : Nat} {tpos : Pos} {e it : Addr} {c : SV} {u : Tok} (f1 : c.apart [e, it]) :
    Turn P w K (.Tuple elts kk tpos) (Ieg K c) [e, it] e (fun i h => (∃ old, IsEnum h e it ((i : Nat) : Int) old) ∧ (c.src u #[]).iter h it i ∧ e ≠ it) where
  mem := List.mem_cons_self
  obj := fun i h ⟨⟨old, he⟩, p, _⟩ b hb => by
    simp only [List.mem_cons, List.not_mem_nil, or_false] at hb
    rcases hb with rfl | rfl
    · exact ⟨_, he, fun _ q => nomatch q⟩
    · exact p.ob
  keep := fun i h h' ⟨⟨old, he⟩, p, ne⟩ k => ⟨⟨old, k e (by simp) _ he⟩, p.to fun o q => k it (by simp) o q, ne⟩
  item := by
    rintro X rfl rfl rfl hc i pins s σ H E I hf ⟨⟨old, he⟩, p, ne⟩ ⟨xs, x, hx, ex⟩
    obtain ⟨its, on, sz, it1⟩ := SV.get I hx u
    have elt : e < s.heap.objs.size := Heap.lt_size he
    refine enum_next he (SV.iter_any p) on (f1.off2 u its) (by rw [sz]; exact (List.getElem?_eq_some_iff.mp ex).1) ne fun h1 tk T v t m1 ho p1 nT eT hsz k1 => ?_
    subst eT
    obtain ⟨x', ex', r1⟩ := it1 i v m1
    rw [ex] at ex'; cases ex'
    refine ⟨_, rfl, wpAny_letOwnedTupleGo_enum (s := { s with heap := h1, toks := tk }) ho fun h2 he2 sb => ?_⟩
    have nT2 : ZPair h2 s.heap.objs.size (.int i t) v := (sb.2 _ (Nat.ne_of_gt elt)).trans nT
    have ok : ObjOk X.prog X.w (upd H s.heap.objs.size (.tup [.int (i : Nat), x])) h2 s.heap.objs.size (.tup [.int (i : Nat), x]) := ⟨by show 2 ≤ sizeLine; decide, [.int i t, v], .cons ⟨_, rfl⟩ (.cons r1 .nil), ⟨_, nT2, rfl, _, rfl⟩⟩
    have stay : ∀ b o, b ∉ [e, it] → s.heap.get? b = some o → h2.get? b = some o := fun b o hb q => by
      simp at hb
      exact (sb.2 b hb.1).trans (k1 b o hb.1 hb.2 q)
    have J : Inv X pins σ (upd H s.heap.objs.size (.tup [.int (i : Nat), x])) { s with heap := h2, toks := tk } := I.turnedNew (ch := [e, it]) stay hf (Nat.le_refl _) ok
    refine ⟨.ref s.heap.objs.size, _, J, rfl, ⟨_, x, rfl, I.hok.fresh (Nat.le_refl _), rfl, fun l hl => by rw [SV.inj I hl hx]; exact ex⟩, ⟨⟨v, he2⟩, SV.iter_any (p1.to fun o q => (sb.2 _ ne.symm).trans q), ne⟩, fun b hb => ?_⟩
    have lt : b < s.heap.objs.size := by
      simp only [List.mem_cons, List.not_mem_nil, or_false] at hb
      rcases hb with rfl | rfl
      · exact elt
      · exact p.lt
    rw [upd_ne (Nat.ne_of_lt lt)]
    exact (hf b hb).1
  done := by
    rintro X rfl rfl rfl hc i pins s σ H E I hf ⟨⟨old, he⟩, p, ne⟩ ⟨xs, hx, le⟩
    obtain ⟨its, on, sz, _⟩ := SV.get I hx u
    refine enum_end (I.ok.hd hc) he (SV.iter_any p) on (by rw [sz]; exact le) fun h1 k1 => ⟨rfl, I.turnedL (t' := s.toks) (ch := [e, it]) (fun b o hb q => ?_) hf⟩
    simp at hb
    exact k1 b o hb.2 q
  self := fun A i s Q E ⟨⟨_, he⟩, _⟩ h => wpAny_pyIter_enum he h
def iEg (K : PySem.W.Frag) (ta : TA) : TI := fun σ H R => ta σ H fun vs H1 => ∃ (c : SV) (xs : List V), vs = [c.v] ∧ c.has K H1 xs ∧ R (Ieg K c) H1
theorem pi_enumG {X : Cx} {e : Expr} {ta : TA} {p pos tpos : Pos} {elts : List Expr} {kk : Nat} (hg : Gl X "enumerate") (hm : X.mg "enumerate" = none) (ha : PA X [e] ta) (hs : starEach [e] X.env = [(false, eval e X.env)] := by rfl) :
    PI X (.Tuple elts kk tpos) (.Call (.Name "enumerate" p) [e] [] pos) (iEg X.K ta) := by
  refine ⟨fun pins s σ H R I h => Call_ (ld_blt I hg hm PyProof.Rows.boot_enumerate (PyProof.Rows.callWith_type1 (thn (ha.run pos pins s σ H _ I h) fun us s1 ⟨vs, H1, I1, r1, c, xs, ex, hx, q⟩ => ?_) hs rfl))⟩
  subst ex
  obtain _ | ⟨ra, rc⟩ := r1
  cases rc
  obtain ⟨t1, e1⟩ := SV.rel ra
  obtain ⟨its, on, _⟩ := SV.get I1 hx t1
  rw [e1 its]
  refine enum_call on fun h' he p k => wpAny_pyIter_enum he ?_
  have ge : ∀ b, b ∈ [s1.heap.objs.size + 1, s1.heap.objs.size] → s1.heap.objs.size ≤ b := fun b hb => by
    simp only [List.mem_cons, List.not_mem_nil, or_false] at hb
    rcases hb with z | z <;> rw [z] <;> first | exact Nat.le_add_right _ _ | exact Nat.le_refl _
  exact ⟨_, _, _, _, H1, rfl, I1.kept (t' := s1.toks) k, turn_eg (u := t1) (SV.new on ge), ⟨⟨_, he⟩, SV.iter_any p, Nat.succ_ne_self _⟩, fun b hb => I1.fpOk (ge b hb) (I1.hok.fresh (ge b hb)), q⟩
end DL
end

section
set_option maxHeartbeats 4000000
namespace DL
open PySem PySem.Spec PyProof.Rows L2
/-! ## x[::-1] -/
theorem filter_back {α : Type} (xs : Array α) : ((List.range xs.size).map fun k => xs.size - 1 - k).filterMap (xs[·]?) = xs.toList.reverse := by
  rw [PySem.W.krv_range, List.filterMap_reverse, PySem.W.krv_all]
theorem filterMap_cg {α β : Type} {f g : α → Option β} : ∀ {l : List α}, (∀ x ∈ l, f x = g x) → l.filterMap f = l.filterMap g
  | [], _ => rfl
  | x :: l, h => by rw [List.filterMap_cons, List.filterMap_cons, h x List.mem_cons_self, filterMap_cg fun y hy => h y (List.mem_cons_of_mem _ hy)]
theorem pick_back (xs : Array Value) : ((List.range xs.size).filterMap fun (m : Nat) => xs[(((xs.size : Int) - 1) + (m : Int) * -1).toNat]?).toArray = xs.toList.reverse.toArray := by
  rw [← filter_back xs, List.filterMap_map]
  congr 1
  refine filterMap_cg fun m hm => ?_
  have e : (((xs.size : Int) - 1) + (m : Int) * -1).toNat = xs.size - 1 - m := by have := List.mem_range.mp hm; omega
  rw [e]
  rfl
section
variable {prog : Program} {w : World} {A : Around} {E : Value → Shared → Prop} {s : Shared}
theorem applied_back {sl : Addr} {n : Nat} {u : Tok} {Q : Int × Int × Nat → Shared → Prop} (hs : s.heap.IsSliceOf sl .none .none (.int (-1) u)) (q : Q ((n : Int) - 1, -1, n) s) : wpAny (model prog w) A (Builtin.Slice.sliceApplied (.ref sl) (pure (n : Int))) Q E s := by
  obtain ⟨os, ho, hc, hd⟩ := hs
  unfold Builtin.Slice.sliceApplied Builtin.Slice.sliceFields
  refine wpAny_bind (wpAny_bind (wpAny_field ho hd (x := .none) rfl (wpAny_bind (wpAny_field ho hd (x := .none) rfl (wpAny_bind (wpAny_field ho hd (x := .int (-1) u) rfl (wpAny_pure (wpAny_bind (slicePart_int ?_)))))))))
  show wpAny _ _ (if ((-1 : Int) == 0) = true then _ else _) _ _ s
  rw [if_neg (by decide)]
  refine wpAny_bind (slicePart_none (wpAny_bind (slicePart_none (wpAny_bind (wpAny_pure ?_)))))
  have e : Builtin.Slice.slicePlaces ((n : Int) - 1) (-1) (-1) = n := by
    unfold Builtin.Slice.slicePlaces
    simp
    split <;> omega
  show wpAny _ _ (pure ((n : Int) - 1, (-1 : Int), Builtin.Slice.slicePlaces ((n : Int) - 1) (-1) (-1))) _ _ s
  rw [e]
  exact wpAny_pure q
theorem tup_back {t sl : Addr} {items : Array Value} {u : Tok} {Q : Value → Shared → Prop} (ht : IsTup s.heap t items) (hs : s.heap.IsSliceOf sl .none .none (.int (-1) u)) (few : items.size ≤ sizeLine)
    (q : Q (.ref s.heap.objs.size) { s with heap := s.heap.push { cls := .type "tuple", data := .seq items.toList.reverse.toArray } }) : wpAny (model prog w) A (getItem (.ref t) (.ref sl)) Q E s := by
  have szo : sizeOk (.seq items.toList.reverse.toArray) := by
    show items.toList.reverse.toArray.size ≤ sizeLine
    rw [List.size_toArray, List.length_reverse, Array.length_toList]
    exact few
  have ty : s.TypeIs (.ref sl) "slice" := let ⟨os, ho, hc, _⟩ := hs; ⟨os, ho, hc⟩
  unfold getItem
  try with_reducible refine wpAny_holding ?_
  first | refine wpAny_bind (wpAny_pure ?_) | skip
  refine wpAny_bind (wpAny_sequenceKey ht.typeIs (by decide) (wpAny_bind (wpAny_callSpecial?_slot (name := Str.ofString "__getitem__") ht.typeIs PyProof.Rows.slot_tuple_getitem (wpAny_call_entry PyProof.Rows.slot_tuple_getitem ht.typeIs entry_tuple_getitem ?_ (args_tuple_getitem _ _)))))
  show wpAny _ _ (Builtin.Tuple.tupleItemsOf (.ref t) >>= _) _ _ s
  refine wpAny_bind (tupleItemsOf_ ht (wpAny_bind (wpAny_typeOf ty ?_)))
  rw [if_pos (by decide)]
  refine wpAny_bind (applied_back hs ?_)
  have no : ¬ ((((items.size : Int) - 1) == 0 && (-1 : Int) == 1 && items.size == items.size) = true) := by
    rw [show ((-1 : Int) == 1) = false from by decide, Bool.and_false, Bool.false_and]
    exact Bool.false_ne_true
  show wpAny _ _ (if (((items.size : Int) - 1) == 0 && (-1 : Int) == 1 && items.size == items.size) = true then _ else _) _ _ s
  rw [if_neg no, pick_back]
  first
    | exact wpAny_bind (wpAny_bind (m := Builtin.Tuple.tupleExact _) (wpAny_newObj_type (wpAny_pure (wpAny_pure ⟨_, rfl, wpAny_pure q⟩)) szo))
    | exact wpAny_bind (wpAny_bind (m := Builtin.Tuple.tupleExact _) (wpAny_newObj_type (wpAny_pure ⟨_, rfl, wpAny_pure q⟩) szo))
    | exact wpAny_bind (m := Builtin.Tuple.tupleExact _) (wpAny_newObj_type (wpAny_pure ⟨_, rfl, wpAny_pure q⟩) szo)
    | exact wpAny_bind (m := Builtin.Tuple.tupleExact _) (wpAny_newObj_type (wpAny_bind (wpAny_pure (wpAny_pure ⟨_, rfl, wpAny_pure q⟩))) szo)
def strRev (x : Str) : Str := ⟨x.cps.toList.reverse.toArray⟩
theorem str_back {x : Str} {t u : Tok} {sl : Addr} {Q : Value → Shared → Prop} (hs : s.heap.IsSliceOf sl .none .none (.int (-1) u)) (few : x.length ≤ sizeLine) (q : ∀ t', Q (.str (strRev x) t') { s with toks := s.toks + 1 }) : wpAny (model prog w) A (getItem (.str x t) (.ref sl)) Q E s := by
  refine wpAny_getItem_str_slice (l := none) (u := none) (st := some (-1, u)) hs rfl ?_
  have e : (Builtin.Str.strSliceIndices none none (-1) x.length).filterMap (x.cps[·]?) = x.cps.toList.reverse := by
    unfold Builtin.Str.strSliceIndices
    show (PySem.sliceRange ((x.length : Int) - 1) (-1) (-1)).filterMap (x.cps[·]?) = _
    rw [PySem.W.krv_sliceRange]
    exact filter_back x.cps
  unfold sliceMade
  rw [if_neg (by
    show ¬ (((-1 : Int) == 1 && (slicePicked x none none (some (-1, u))).length == x.length) = true)
    rw [show ((-1 : Int) == 1) = false from by decide, Bool.false_and]
    exact Bool.false_ne_true)]
  show Made.post (.str ⟨((Builtin.Str.strSliceIndices none none (-1) x.length).filterMap (x.cps[·]?)).toArray⟩) Q s
  rw [e]
  exact ⟨by rw [Str.length, List.size_toArray, List.length_reverse, Array.length_toList]; exact few, q _⟩
end
end DL
end

section
set_option maxHeartbeats 1000000
namespace DL
open PySem PySem.Spec PyProof.Rows L2
section
variable {X : Cx} {W : WX} {ms : Ms} {rs : Shp} {e e2 : Expr} {f g : Rho → R Opd} {as : Rho → R (List Opd)} {pos : Pos} {tg : Expr}
/-! ## what is never reached -/
def eBad : Rho → R D := fun _ => .bad
def sBad : Rho → SR := fun _ => .bad
theorem ce_bad : CE X W ms e eBad := ⟨fun _ _ _ _ _ _ ⟨_, _, _, _, h⟩ => False.elim h⟩
theorem ceo_bad {sh : Shp} : CEo X W ms sh e eBad := ⟨fun _ _ _ _ _ _ ⟨_, _, _, _, h⟩ => False.elim h⟩
theorem cs_bad {st : Stmt} : CS X W ms rs st sBad := ⟨fun _ _ _ _ _ _ ⟨_, _, _, _, h⟩ => False.elim h⟩

/-! ## x[::-1] -/
def dBack : D → Option D
  | .str z => if z.length ≤ sizeLine then some (.str (strRev z)) else none
  | .tuple ds => some (.tuple ds.reverse)
  | .list ds => some (.list ds.reverse)
  | _ => none
def rBk (K : PySem.W.Frag) (x : V) (H : Hp) (Q : VK) : Prop := (∃ z, x = .str z ∧ z.length ≤ sizeLine ∧ Q (.str (strRev z)) H) ∨ (∃ a xs, x = .ref a ∧ SqT K H a xs ∧ ∀ p, H p = none → Q (.ref p) (upd H p (.tup xs.reverse))) ∨
  ∃ a xs, x = .ref a ∧ SqL K H a xs ∧ ∀ p, H p = none → Q (.ref p) (upd H p (.lst xs.reverse))
theorem vals_back : ∀ {xs : List V} {us : List Value}, Vals xs us → Vals xs.reverse us.reverse := by
  have app : ∀ {xs ys : List V} {us vs : List Value}, Vals xs us → Vals ys vs → Vals (xs ++ ys) (us ++ vs) := by
    intro xs ys us vs a b
    induction a with
    | nil => exact b
    | cons r _ ih => exact .cons r ih
  intro xs us a
  induction a with
  | nil => exact .nil
  | cons r _ ih => rw [List.reverse_cons, List.reverse_cons]; exact app ih (.cons r .nil)
theorem pe_back {te : TE} {j : Nat} {p2 p3 p4 : Pos} (he : PE X e te) : PE X (.Subscript e (.Slice none none (some (.UnaryOp .USub (.Constant (.int 1) j p3) p4)) p2) pos) (fun σ H Q => te σ H fun x H1 => rBk X.K x H1 Q) := by
  refine ⟨fun pins s σ H Q I h => Subscript_ (thn (he.run pins s σ H _ I h) fun v s1 ⟨x, H1, I1, r1, q1⟩ => ?_)⟩
  have step : PO X (some (.UnaryOp .USub (.Constant (.int 1) j p3) p4)) _ := po_some (pe_un un_neg pe_int)
  refine wpAny_Slice ?_
  rw [evalPart_none]
  refine wpAny_pure ?_
  refine wpAny_pure ?_
  refine thn (step.run pins s1 σ H1 (fun o H2 => o = some (-1) ∧ H1 = H2) I1 ⟨1, rfl, -1, rfl, rfl, rfl⟩) fun vs s2 ⟨o, H2, I2, pk, e1, e2⟩ => ?_
  subst e1 e2
  cases pk with
  | int _ t =>
    have I3 : Inv X pins σ H1 { s2 with heap := s2.heap.push { cls := .type "slice", data := .fields #[.none, .none, .int (-1) t] } } := I2.kept (t' := s2.toks) fun b ob q => Heap.get?_push_of_some _ q
    have at_ : (s2.heap.push { cls := .type "slice", data := .fields #[.none, .none, .int (-1) t] }).IsSliceOf s2.heap.objs.size .none .none (.int (-1) t) := Heap.IsSliceOf.new ..
    show wpAny (model X.prog X.w) X.A (subscriptTail e (.Slice none none (some (.UnaryOp .USub (.Constant (.int 1) j p3) p4)) p2) v (.ref s2.heap.objs.size)) (EP X pins σ Q) X.xe { s2 with heap := s2.heap.push { cls := .type "slice", data := .fields #[.none, .none, .int (-1) t] } }
    generalize hS : ({ s2 with heap := s2.heap.push { cls := .type "slice", data := .fields #[.none, .none, .int (-1) t] } } : Shared) = s3 at I3 ⊢
    have at_ : s3.heap.IsSliceOf s2.heap.objs.size .none .none (.int (-1) t) := by rw [← hS]; exact at_
    have sub : ∀ v : Value, subscripted (.Slice none none (some (.UnaryOp .USub (.Constant (.int 1) j p3) p4)) p2) false v (.ref s2.heap.objs.size) = operate [v, .ref s2.heap.objs.size] (getItem v (.ref s2.heap.objs.size)) := fun v => by with_unfolding_all rfl
    rcases q1 with ⟨z, rfl, hz, q⟩ | ⟨a, xs, rfl, hx, q⟩ | ⟨a, xs, rfl, hx, q⟩
    · obtain ⟨u, rfl⟩ := r1
      exact tail_any (ops := [.str z u, .ref s2.heap.objs.size]) (typeIs_str s3 z u) slot_str_getitem.lookup (str_back at_ hz fun t' => ⟨.str (strRev z), H1, I3.tok _, ⟨_, rfl⟩, q⟩) (sub _)
    · cases r1
      obtain ⟨its, r, ht, hl⟩ := I3.tuple hx
      have ln := r.length
      refine tail_any (ops := [.ref a, .ref s2.heap.objs.size]) ht.typeIs PyProof.Rows.slot_tuple_getitem.lookup (tup_back ht at_ (by rw [List.size_toArray, ← ln]; exact hl) ?_) (sub _)
      have J : Inv X pins σ (upd H1 s3.heap.objs.size (.tup xs.reverse)) { s3 with heap := s3.heap.push { cls := .type "tuple", data := .seq its.reverse.toArray } } :=
        I3.laid (t' := s3.toks) (o := .tup xs.reverse) (fun b ob k => Heap.get?_push_of_some _ k) (Nat.le_refl _) ⟨by rw [List.length_reverse]; exact hl, _, vals_back r, IsTup.new _ _⟩
      exact ⟨.ref s3.heap.objs.size, _, J, rfl, q _ (I3.hok.fresh (Nat.le_refl _))⟩
    · cases r1
      obtain ⟨its, r, pl, hl⟩ := I3.list hx
      have ln := r.length
      refine tail_any (ops := [.ref a, .ref s2.heap.objs.size]) pl.isList.typeIs slot_list_getitem.lookup (wpAny_getItem_list_slice pl.isList at_ .none .none (.int (-1) t) (by decide) ?_ (by rw [List.size_toArray, ← ln]; exact hl)) (sub _)
      rw [PySem.W.krv_pick]
      have J : Inv X pins σ (upd H1 s3.heap.objs.size (.lst xs.reverse)) { s3 with heap := s3.heap.push { cls := .type "list", data := .seq its.reverse.toArray } } :=
        I3.laid (t' := s3.toks) (o := .lst xs.reverse) (fun b ob k => Heap.get?_push_of_some _ k) (Nat.le_refl _) ⟨by rw [List.length_reverse]; exact hl, _, 0, vals_back r, Heap.get?_push_size _ rfl⟩
      exact ⟨.ref s3.heap.objs.size, _, J, rfl, q _ (I3.hok.fresh (Nat.le_refl _))⟩
def eBack (f : Rho → R Opd) : Rho → R D := fun r => (f r).bind fun o r1 => .ofO ((o.get r1).bind dBack) r1
theorem ce_back {j : Nat} {p2 p3 p4 : Pos} (he : CO X W ms e f) : CE X W ms (.Subscript e (.Slice none none (some (.UnaryOp .USub (.Constant (.int 1) j p3) p4)) p2) pos) (eBack f) :=
  (pe_back he).weak fun σ H Q ⟨r, O, G, R, h⟩ => by
    unfold eBack at h
    rw [on_bind] at h
    refine tO_step R h fun o r1 v H1 O1 h1 R1 E1 p1 => ?_
    obtain ⟨d, ed, h1⟩ := on_ofO h1
    obtain ⟨x, ex, ed⟩ := bind_some ed
    have rb := p1.get R1 ex
    cases x with
    | str z =>
      obtain ⟨hz, rfl⟩ := ite_some ed
      rw [rb.strI]
      exact .inl ⟨z, rfl, hz, h1 _ H1 O1 R1 E1 (.str _)⟩
    | tuple ds =>
      cases ed
      obtain ⟨a, xs, rfl, q, ra⟩ := rb.tupI
      refine .inr (.inl ⟨a, xs, rfl, q, fun p hp => ?_⟩)
      have sm : Same H1 (upd H1 p (.tup xs.reverse)) := fun b u e => by rw [upd_ne (ne_of_none e hp)]; exact e
      exact h1 _ _ O1 (R1.same sm) (E1.trans (.same sm R1.tr)) (.tup (.inl (.inl (msk_mk (R1.nowned hp) upd_same))) (ra.reverse.mono (msk_same sm)))
    | list ds =>
      cases ed
      obtain ⟨a, xs, rfl, q, ra⟩ := rb.lstI
      refine .inr (.inr ⟨a, xs, rfl, .inl q, fun p hp => ?_⟩)
      have sm : Same H1 (upd H1 p (.lst xs.reverse)) := fun b u e => by rw [upd_ne (ne_of_none e hp)]; exact e
      exact h1 _ _ O1 (R1.same sm) (E1.trans (.same sm R1.tr)) (.lst (.inl (msk_mk (R1.nowned hp) upd_same)) (ra.reverse.mono (msk_same sm)))
    | _ => cases ed
end
end DL
end

section
set_option maxHeartbeats 1000000
namespace DL
open PySem PySem.Spec PyProof.Rows L2
section
variable {X : Cx} {W : WX} {ms : Ms} {rs : Shp} {e e2 : Expr} {f g : Rho → R Opd} {as : Rho → R (List Opd)} {pos : Pos} {tg : Expr}
/-! ## a << b -/
def dShl : D → D → Option D
  | .int i, .int j => if (decide (0 ≤ j) && decide (j ≤ 1000) && decide (i.natAbs < 2 ^ 64)) = true then some (.int (i * 2 ^ j.toNat)) else none
  | _, _ => none
theorem sr_shl : SemR X (rI CPow fun i j => .int (i * 2 ^ j.toNat)) dShl := fun x y a b d H W Q ra rb tr e q => by
  cases a <;> cases b <;> first | (cases e; done) | skip
  obtain ⟨hz, rfl⟩ := ite_some e
  simp only [Bool.and_eq_true, decide_eq_true_eq] at hz
  rw [ra.intI, rb.intI]
  exact ⟨_, _, rfl, rfl, ⟨hz.1.1, by omega, hz.2⟩, q _ H (Same.refl _) (.int _)⟩
/-! ## list(x), x a list, a tuple, a text -/
def rLstA (K : PySem.W.Frag) : List V → Hp → VK → Prop := fun xs H Q => (∃ p ys, xs = [.ref p] ∧ (SqL K H p ys ∨ SqT K H p ys) ∧ ∀ l, H l = none → Q (.ref l) (upd H l (.lst ys))) ∨
  ∃ z : Str, xs = [.str z] ∧ z.cps.size ≤ sizeLine ∧ ∀ l, H l = none → Q (.ref l) (upd H l (.lst ((sgs z).map V.str)))
theorem cr_lstA (hc : X.calm = true) : CallR X (.type "list") (rLstA X.K) := by
  intro pins s σ H xs us Q I r h
  rcases h with h | ⟨z, rfl, hz, q⟩
  · exact call_list_of pins s σ H xs us Q I r h
  · obtain ⟨t, rfl⟩ := vals_str1 r
    refine call_list_str (I.ok.hd hc) z t (fun h' tk acc c k at_ its => ?_) hz
    have sa : StrsAre acc.toList (sgs z) := signs_are its
    have hl : ((sgs z).map V.str).length ≤ sizeLine := by rw [List.length_map, sgs, List.length_map, Array.length_toList]; exact hz
    exact ⟨.ref s.heap.objs.size, _, I.laid (t' := tk) (o := .lst ((sgs z).map V.str)) k (Nat.le_refl _) ⟨hl, acc.toList, c, vals_of_strs sa, by simpa using at_⟩, rfl, q _ (I.hok.fresh (Nat.le_refl _))⟩
def cListA : List D → Option (List D)
  | [.list ds] => some ds
  | [.tuple ds] => some ds
  | [.str z] => if z.cps.size ≤ sizeLine then some (z.cps.toList.map sgn) else none
  | _ => none
theorem sgs_sgn (z : Str) : (sgs z).map PyData.str = z.cps.toList.map sgn := by rw [sgs, List.map_map]; rfl
theorem sc_lstA : SemL X (rLstA X.K) cListA := fun xs ds es H W Q rp tr e q => by
  unfold cListA at e
  split at e
  · cases e
    obtain ⟨v, rfl, rv⟩ := rp.one
    obtain ⟨a, ys, rfl, rd, ra⟩ := rv.lstI
    exact .inl ⟨a, ys, rfl, .inl (.inl rd), fun l hl => q _ H l (Same.refl _) hl ra⟩
  · cases e
    obtain ⟨v, rfl, rv⟩ := rp.one
    obtain ⟨a, ys, rfl, rd, ra⟩ := rv.tupI
    exact .inl ⟨a, ys, rfl, .inr rd, fun l hl => q _ H l (Same.refl _) hl ra⟩
  · obtain ⟨hz, rfl⟩ := ite_some e
    obtain ⟨v, rfl, rv⟩ := rp.one
    rw [rv.strI]
    exact .inr ⟨_, rfl, hz, fun l hl => q _ H l (Same.refl _) hl (by rw [← sgs_sgn]; exact repStrs _)⟩
  · cases e
/-! ## sorted(set(x)) -/
def eSrtSet (f : Rho → R D) : Rho → R D := fun r => (f r).bind fun d r1 => match d with
  | .str z => if z.cps.size + 1 < scanBound then .ok (.list ((setSort z).map .str)) r1 else .bad
  | _ => .bad
theorem ceo_srtSet {f : Rho → R D} {p p2 q : Pos} (he : CE X W ms e f) (hm : X.mg "sorted" = none) (hm2 : X.mg "set" = none) (hc : X.calm = true := by rfl) (hg : Gl X "sorted" := by rfl) (hg2 : Gl X "set" := by rfl)
    (na : starEach [e] X.env = (false, eval e X.env) :: starEach [] X.env := by rfl) : CEo X W ms .lst (.Call (.Name "sorted" p) [.Call (.Name "set" p2) [e] [] q] [] pos) (eSrtSet f) :=
  (pe_srtSet hc hg hm hg2 hm2 he na).weak fun σ H Q ⟨r, O, G, R, h⟩ => by
    unfold eSrtSet at h
    rw [on_bind] at h
    refine tE_step R h fun d r1 v H1 O1 h1 R1 E1 p1 => ?_
    cases d with
    | str z =>
      simp only at h1
      split at h1
      · rename_i hz
        refine ⟨z, p1.strI, hz, fun p hp => ?_⟩
        obtain ⟨R2, E2, n, rs⟩ := own_new R1 hp (repStrs (K := X.K) (H := msk H1 (Ow O1 G)) (setSort z))
        exact h1 _ _ O1 [p] R2 (E1.trans E2) n rs
      · exact False.elim h1
    | _ => exact False.elim h1
/-! ## zip, enumerate -/
def itemsD : D → Option (List D)
  | .list ds => some ds
  | .tuple ds => some ds
  | .str z => some (z.cps.toList.map sgn)
  | _ => none
theorem itemsD_sv {K : PySem.W.Frag} {M : Hp} {v : V} {d : D} {ds : List D} (h : Rep K M v d) (e : itemsD d = some ds) : ∃ (c : SV) (xs : List V), v = c.v ∧ RepAll K M xs ds ∧ ∀ H, Same M H → c.has K H xs := by
  cases d with
  | list l =>
    cases e
    obtain ⟨a, xs, rfl, q, r⟩ := h.lstI
    exact ⟨.l a, xs, rfl, r, fun H s => .inl (DL.Same.rd s q)⟩
  | tuple l =>
    cases e
    obtain ⟨a, xs, rfl, q, r⟩ := h.tupI
    exact ⟨.t a, xs, rfl, r, fun H s => DL.Same.tup s q⟩
  | str z =>
    cases e
    rw [h.strI]
    exact ⟨.s z, (sgs z).map V.str, rfl, by rw [← sgs_sgn]; exact repStrs _, fun H s => rfl⟩
  | _ => cases e
def zipD (xs ys : List D) : List D := List.zipWith (fun a b => .tuple [a, b]) xs ys
def enumD (xs : List D) : List D := xs.mapIdx fun i d => .tuple [.int (i : Nat), d]
theorem rep_pair {K : PySem.W.Frag} {H : Hp} {W : Gh} {T : Addr} {x y : V} {a b : D} (hT : H T = none) (tr : ∀ p, W p → H p ≠ none) (ra : Rep K (msk H W) x a) (rb : Rep K (msk H W) y b) :
    Same H (upd H T (.tup [x, y])) ∧ Rep K (msk (upd H T (.tup [x, y])) W) (.ref T) (.tuple [a, b]) := by
  have sm : Same H (upd H T (.tup [x, y])) := fun b u e => by rw [upd_ne (ne_of_none e hT)]; exact e
  exact ⟨sm, .tup (.inl (.inl (msk_mk (fun w => tr T w hT) upd_same))) (.cons (ra.mono (msk_same sm)) (.cons (rb.mono (msk_same sm)) .nil))⟩
theorem walkD_zip {K : PySem.W.Frag} {M : Hp} {c d : SV} {xs ys : List V} {as bs : List D} (ha : RepAll K M xs as) (hb : RepAll K M ys bs) (hc : ∀ H, Same M H → c.has K H xs) (hd : ∀ H, Same M H → d.has K H ys) : WalkD K (Izg K c d) (zipD as bs) M := fun H W sm tr => by
  have sH : Same M H := sm.trans msk_sub
  refine ⟨fun i z e => ?_, xs, ys, hc H sH, hd H sH, ?_⟩
  · unfold zipD at e
    rw [List.getElem?_zipWith] at e
    cases ea : as[i]? with
    | none => rw [ea] at e; cases e
    | some a =>
      rw [ea] at e
      cases eb : bs[i]? with
      | none => rw [eb] at e; cases e
      | some b =>
        rw [eb] at e
        cases e
        obtain ⟨x, ex, rx⟩ := ha.get ea
        obtain ⟨y, ey, ry⟩ := hb.get eb
        refine ⟨⟨xs, ys, x, y, hc H sH, hd H sH, ex, ey⟩, ?_⟩
        rintro v H' ⟨T, x', y', rfl, hT, rfl, kx, ky⟩
        have e1 := kx xs (hc H sH)
        have e2 := ky ys (hd H sH)
        rw [ex] at e1; cases e1
        rw [ey] at e2; cases e2
        exact rep_pair hT tr (rx.mono sm) (ry.mono sm)
  · unfold zipD
    rw [List.length_zipWith, ha.len, hb.len]
    rcases Nat.le_total as.length bs.length with z | z
    · exact .inl (by rw [Nat.min_eq_left z]; exact Nat.le_refl _)
    · exact .inr (by rw [Nat.min_eq_right z]; exact Nat.le_refl _)
theorem walkD_enum {K : PySem.W.Frag} {M : Hp} {c : SV} {xs : List V} {as : List D} (ha : RepAll K M xs as) (hc : ∀ H, Same M H → c.has K H xs) : WalkD K (Ieg K c) (enumD as) M := fun H W sm tr => by
  have sH : Same M H := sm.trans msk_sub
  refine ⟨fun i z e => ?_, xs, hc H sH, by unfold enumD; rw [List.length_mapIdx, ha.len]; exact Nat.le_refl _⟩
  unfold enumD at e
  rw [List.getElem?_mapIdx] at e
  cases ea : as[i]? with
  | none => rw [ea] at e; cases e
  | some a =>
    rw [ea] at e
    cases e
    obtain ⟨x, ex, rx⟩ := ha.get ea
    refine ⟨⟨xs, x, hc H sH, ex⟩, ?_⟩
    rintro v H' ⟨T, x', rfl, hT, rfl, kx⟩
    have e1 := kx xs (hc H sH)
    rw [ex] at e1; cases e1
    exact rep_pair hT tr (.int _) (rx.mono sm)
theorem Rep2 {K : PySem.W.Frag} {M : Hp} {σ : L2.St} {vs : List V} {os : List Opd} {d : List D} (p : RepOs K M σ vs os) (e : vals os = some d) : RepAll K M vs d := p.vals e
def iZip (as : Rho → R (List Opd)) : Rho → R (List D) := fun r => (as r).bind fun os r1 => match vals os with
  | some [a, b] => match itemsD a, itemsD b with
    | some xs, some ys => .ok (zipD xs ys) r1
    | _, _ => .bad
  | _ => .bad
theorem ci_zip {elts : List Expr} {kk : Nat} {p tpos : Pos} (ha : CA X W ms [e, e2] as) (hm : X.mg "zip" = none) (hg : Gl X "zip" := by rfl) (hs : starEach [e, e2] X.env = (false, eval e X.env) :: starEach [e2] X.env := by rfl)
    (hpl : (backTo pos (starEach [e2] X.env)).any (·.1) = false := by rfl) : CI X W ms (.Tuple elts kk tpos) (.Call (.Name "zip" p) [e, e2] [] pos) (iZip as) :=
  (pi_zipG hg hm ha hs hpl).weak fun σ H Z ⟨r, O, G, R, h⟩ => by
    unfold iZip at h
    rw [on_bind] at h
    refine tA_step R h fun os r1 vs H1 O1 h1 R1 E1 p1 => ?_
    split at h1
    · rename_i a b ev
      split at h1
      · rename_i xs ys ea eb
        cases p1.vals ev with
        | cons ra rr => cases rr with
          | cons rb rn =>
            cases rn
            obtain ⟨c, us, rfl, r1', k1⟩ := itemsD_sv ra ea
            obtain ⟨d, ws, rfl, r2', k2⟩ := itemsD_sv rb eb
            exact ⟨c, d, us, ws, rfl, k1 _ msk_sub, k2 _ msk_sub, h1 _ H1 O1 R1 E1 (walkD_zip r1' r2' k1 k2)⟩
      · exact False.elim h1
    · exact False.elim h1
def iEnum (as : Rho → R (List Opd)) : Rho → R (List D) := fun r => (as r).bind fun os r1 => match vals os with
  | some [a] => match itemsD a with
    | some xs => .ok (enumD xs) r1
    | none => .bad
  | _ => .bad
theorem ci_enum {elts : List Expr} {kk : Nat} {p tpos : Pos} (ha : CA X W ms [e] as) (hm : X.mg "enumerate" = none) (hg : Gl X "enumerate" := by rfl) (hs : starEach [e] X.env = [(false, eval e X.env)] := by rfl) :
    CI X W ms (.Tuple elts kk tpos) (.Call (.Name "enumerate" p) [e] [] pos) (DL.iEnum as) :=
  (pi_enumG hg hm ha hs).weak fun σ H Z ⟨r, O, G, R, h⟩ => by
    unfold DL.iEnum at h
    rw [on_bind] at h
    refine tA_step R h fun os r1 vs H1 O1 h1 R1 E1 p1 => ?_
    split at h1
    · rename_i a ev
      split at h1
      · rename_i xs ea
        cases p1.vals ev with
        | cons ra rn =>
          cases rn
          obtain ⟨c, us, rfl, r1', k1⟩ := itemsD_sv ra ea
          exact ⟨c, us, rfl, k1 _ msk_sub, h1 _ H1 O1 R1 E1 (walkD_enum r1' k1)⟩
      · exact False.elim h1
    · exact False.elim h1
end
end DL
end

section
set_option maxHeartbeats 1000000
namespace DL
open PySem PySem.Spec PyProof.Rows L2
section
variable {X : Cx} {W : WX} {ms : Ms} {rs : Shp} {k v : Expr} {fk fv : Rho → R D} {pos p1 p2 : Pos} {y : Str}
/-! ## xs[k] = v, xs a list of one's own in slot i -/
def putIx (i : Nat) (kd d : D) (r : Rho) : SR := match kd, (r[i]?).join with
  | .int k, some (.list cs) => match ixN cs.length k with
    | some j => .nx (r.set i (some (.list (cs.set j d))))
    | none => .bad
  | _, _ => .bad
def sSetIx (i : Nat) (fv fk : Rho → R D) : Rho → SR := fun r => (fv r).toS fun d r1 => match (r1[i]?).join with
  | some (.list _) => (fk r1).toS fun kd r2 => putIx i kd d r2
  | _ => .bad
theorem put_read {σ : L2.St} {H H0 : Hp} {r : Rho} {O O0 : Own} {G : Gh} {E : Ends} {i : Nat} {kd d : D} {a : Addr} {kv vv : V} (R : Rel X.w X.K ms σ H r O G) (hi : (ms i).sh = .lst) (ev : σ[i]? = some (some (.ref a))) (rk : Rep X.K (msk H (Ow O G)) kv kd) (rv : Rep X.K (msk H (Ow O G)) vv d)
    (E0 : Ext H0 O0 G H O G) (h : SOn X W ms rs E σ H0 O0 G (putIx i kd d r)) : rSetL (.ref a) kv vv H fun H3 => E.nx σ H3 := by
  unfold putIx at h
  split at h
  · rename_i k cs ej
    split at h
    · rename_i j ej2
      obtain ⟨w, ew, rs1⟩ := R.slot i _ (join_some ej)
      rw [hi] at rs1
      obtain ⟨b, vs, ds, rfl, ed, eO, hb, ra⟩ := rs1.lstI
      rw [ev] at ew
      cases ew
      cases ed
      rw [rk.intI]
      obtain ⟨R3, E3⟩ := R.mut (vs := vs) (vs' := vs.set j vv) hi (join_some ej) eO (ra.set j rv)
      exact ⟨a, vs, k, j, rfl, rfl, hb, by rw [ra.len]; exact ej2, h σ _ O R3 (E0.trans E3) .refl⟩
    · exact False.elim h
  · exact False.elim h
theorem cs_setIx (i : Nat) (hv : CE X W ms v fv) (hk : CE X W ms k fk) (hi : (ms i).sh = .lst := by rfl)
    (hN : X.N[i]? = some y := by rfl) (vis : Vis X.env.scope y := by first | exact Or.inl rfl | exact Or.inr (Or.inl rfl) | exact Or.inr (Or.inr rfl)) (hd : (y == ("__debug__" : Str)) = false := by decide) (hcd : (y == ("__classdict__" : Str)) = false := by decide)
    (hs : swapsWithSole [.Subscript (.Name y p1) k p2] v pos.line X.env = pure false := by rfl) (hw : swappedStores [.Subscript (.Name y p1) k p2] v X.env = pure none := by rfl)
    (ha : ∀ w, assign (.Subscript (.Name y p1) k p2) X.env w = (do
      let ov ← holding [w] (eval (.Name y p1) X.env)
      let iv ← holding [w, ov] (eval k X.env)
      standAt p2
      holding [w, ov, iv] (setItem ov iv w)
      release [w, ov, iv] []) := by intro _; rfl)
    (h1 : (assignEach [.Subscript (.Name y p1) k p2] X.env).map (·.2) = [assign (.Subscript (.Name y p1) k p2) X.env] := by rfl) : CS X W ms rs (.Assign [.Subscript (.Name y p1) k p2] v pos) (sSetIx i fv fk) :=
  (ps_asg hv (pg_sub (pe_var hN vis hd hcd) hk set_list ha) hs hw h1).lenW fun E σ H hl ⟨r, O, G, R, h⟩ => tE_step R (toS_on h) fun d r1 vv H1 O1 q R1 e1 rp1 => by
    split at q
    · rename_i c0 ej
      obtain ⟨w, ew, rs1⟩ := R1.slot i _ (join_some ej)
      rw [hi] at rs1
      obtain ⟨a, vs, ds, rfl, ed, eO, hb, ra⟩ := rs1.lstI
      refine ⟨_, ew, tE_step R1 (toS_on (q.mono e1 .refl)) fun kd r2 kv H2 O2 q2 R2 e2 rp2 => ?_⟩
      exact put_read R2 hi ew rp2 (rp1.mono e2.sm) e2 (by exact (q2))
    · exact False.elim q
/-! ## xs[k] op= e -/
def sAugIx (i : Nat) (sem : D → D → Option D) (fk : Rho → R D) (fe : Rho → R Opd) : Rho → SR := fun r => match (r[i]?).join with
  | some (.list _) => (fk r).toS fun kd r1 => match kd, (r1[i]?).join with
    | .int k, some (.list cs) => match atI cs k with
      | some x => (fe r1).toS fun o r2 => match (o.get r2).bind fun y => sem x y with
        | some z => putIx i (.int k) z r2
        | none => .bad
      | none => .bad
    | _, _ => .bad
  | _ => .bad
theorem pget_list : PGet X (rIxL X.K) := by
  intro pins s σ H o i ov iv Q I ro ri h
  obtain ⟨p, xs, k, z, rfl, rfl, hq, he, q⟩ := h
  cases ro
  obtain ⟨t, rfl⟩ := ri
  obtain ⟨its, r, pl, hz⟩ := I.list hq
  obtain ⟨j, h1, h2, h3, h4, h5⟩ := atI_get he
  obtain ⟨w, ew, rw'⟩ := r.get h2
  have hl := r.length
  have hn := line63
  have fin : EP X pins σ Q w s := ⟨z, H, I, rw', q⟩
  by_cases h0 : 0 ≤ k
  · have hj : k.toNat = j := Option.some.inj ((seqIndex_of h0 h5).symm.trans h1)
    exact wpAny_getItem_list pl.isList h0 (by omega) (by rw [hj]; simpa using ew) fin
  · have hj : (k + (its.toArray.size : Int)).toNat = j := by
      have e := (seqIndex_neg (by omega) h4).symm.trans h1
      rw [List.size_toArray, ← hl]
      exact Option.some.inj e
    exact wpAny_getItem_list_neg pl.isList (by omega) (by rw [List.size_toArray] <;> omega) (by omega) (by rw [hj]; simpa using ew) fin
theorem cs_augIx (i : Nat) {fe : Rho → R Opd} {op : Operator} {ti : TIp} {sem : D → D → Option D} (hk : CE X W ms k fk) (he : CO X W ms v fe) (ho : PIp X op ti) (hse : SemI X ti sem) (hi : (ms i).sh = .lst := by rfl)
    (hN : X.N[i]? = some y := by rfl) (vis : Vis X.env.scope y := by first | exact Or.inl rfl | exact Or.inr (Or.inl rfl) | exact Or.inr (Or.inr rfl)) (hd : (y == ("__debug__" : Str)) = false := by decide) (hcd : (y == ("__classdict__" : Str)) = false := by decide)
    (ha : ∀ ov iv new, augStore k ov iv new = (do holding [new, ov, iv] (setItem ov iv new); release [new, ov, iv] []; pure .next) := by intros; rfl) : CS X W ms rs (.AugAssign (.Subscript (.Name y p1) k p2) op v pos) (sAugIx i sem fk fe) :=
  (ps_augS (pe_var hN vis hd hcd) hk pget_list he ho set_list ha).lenW fun E σ H hl ⟨r, O, G, R, h⟩ => by
    unfold sAugIx at h
    split at h
    · rename_i c0 ej
      obtain ⟨w, ew, rs1⟩ := R.slot i _ (join_some ej)
      rw [hi] at rs1
      obtain ⟨a, vs, ds, rfl, ed, eO, hb, ra⟩ := rs1.lstI
      refine ⟨_, ew, tE_step R (toS_on h) fun kd r1 kv H1 O1 q1 R1 e1 rp1 => ?_⟩
      split at q1
      · rename_i k cs ej1
        split at q1
        · rename_i x ex
          obtain ⟨w1, ew1, rs2⟩ := R1.slot i _ (join_some ej1)
          rw [hi] at rs2
          obtain ⟨a1, vs1, ds1, rfl, ed1, eO1, hb1, ra1⟩ := rs2.lstI
          rw [ew] at ew1
          cases ew1
          cases ed1
          obtain ⟨xv, exv, rx⟩ := ra1.atI ex
          rw [rp1.intI]
          refine ⟨a, vs1, k, xv, rfl, rfl, .inl (.inl hb1), exv, tO_step R1 (toS_on (q1.mono e1 .refl)) fun o r2 yv H2 O2 q2 R2 e2 rp2 => ?_⟩
          split at q2
          · rename_i z ez
            obtain ⟨yd, ey, e3⟩ := bind_some ez
            refine hse xv yv x yd z H2 (Ow O2 G) _ (.purI (rx.mono e2.sm)) (rp2.get R2 ey) R2.trO e3 fun zv H3 sm rz => ?_
            have R3 := R2.same sm
            have e4 : Ext H2 O2 G H3 O2 G := .same sm R2.tr
            exact put_read R3 hi ew (.int k) rz (e2.trans e4) q2
          · exact False.elim q2
        · exact False.elim q1
      · exact False.elim q1
    · exact False.elim h
end
end DL
end

section
set_option maxHeartbeats 1000000
namespace DL
open PySem PySem.Spec PyProof.Rows L2
/-! ## two fors in a comprehension -/
def compI (vs : List Nat) (k : D → Rho → Option Rho) (t : Rho → R Bool) (f : Rho → R D) : List D → Rho → List D → R (List D)
  | [], r, acc => .ok acc r
  | d :: ds, r, acc => match k d (wipeR r vs) with
    | none => .bad
    | some r1 => (t r1).noX.bind fun c r2 => if c = true then (f r2).noX.bind fun y r3 => if acc.length < sizeLine then compI vs k t f ds r3 (acc ++ [y]) else .bad else compI vs k t f ds r2 acc
def compO (vs vs1 : List Nat) (k : D → Rho → Option Rho) (t : Rho → R Bool) (i1 : Rho → R (List D)) (k1 : D → Rho → Option Rho) (t1 : Rho → R Bool) (f : Rho → R D) : List D → Rho → List D → R (List D)
  | [], r, acc => .ok acc r
  | d :: ds, r, acc => match k d (wipeR r vs) with
    | none => .bad
    | some r1 => (t r1).noX.bind fun c r2 => if c = true then (i1 r2).noX.bind fun ds1 r3 => (compI vs1 k1 t1 f ds1 r3 acc).bind fun acc1 r4 => compO vs vs1 k t i1 k1 t1 f ds r4 acc1 else compO vs vs1 k t i1 k1 t1 f ds r2 acc
def eComp2 (vs vs1 : List Nat) (i : Rho → R (List D)) (k : D → Rho → Option Rho) (t : Rho → R Bool) (i1 : Rho → R (List D)) (k1 : D → Rho → Option Rho) (t1 : Rho → R Bool) (f : Rho → R D) : Rho → R D := fun r =>
  (i r).bind fun ds r1 => (compO vs vs1 k t i1 k1 t1 f ds r1 []).bind fun ys r2 => .ok (.list ys) (restR r1 (wipeR r2 vs) vs)
theorem wipeR_wipeR {r : Rho} {vs : List Nat} : ∀ {ws : List Nat}, (∀ i ∈ ws, i ∈ vs) → wipeR (wipeR r ws) vs = wipeR r vs := by
  intro ws h
  apply List.ext_getElem?
  intro i
  by_cases q : i ∈ vs
  · have go : ∀ (l : Rho) (us : List Nat), i ∈ us → (wipeR l us)[i]? = if i < l.length then some none else none := by
      intro l us
      induction us with
      | nil => intro z; cases z
      | cons v us ih =>
        intro z
        unfold wipeR
        by_cases e : v = i
        · subst e
          by_cases hv : v < l.length
          · rw [List.getElem?_set_self (by rw [wipeR_len]; exact hv), if_pos hv]
          · rw [List.getElem?_eq_none (by rw [List.length_set, wipeR_len]; exact Nat.le_of_not_lt hv), if_neg hv]
        · rw [List.getElem?_set_ne e]
          exact ih ((List.mem_cons.mp z).elim (fun z => absurd z.symm e) id)
    rw [go _ _ q, go _ _ q, wipeR_len]
  · rw [wipeR_out _ q, wipeR_out _ q, wipeR_out _ fun z => q (h i z)]
section
variable {X : Cx} {W : WX} {ms : Ms} {rs : Shp} {σ σ1 : L2.St} {H H1 : Hp} {r r1 : Rho} {O O1 : Own} {G : Gh} {E : Ends} {tg tg1 e : Expr}
theorem wipe_in {vs vs1 : List Nat} (h : ∀ i ∈ vs1, i ∈ vs) : wipe (wipe σ vs1) vs = wipe σ vs := wipe_eq (wipe_length σ vs1) fun j hj => wipe_out2 fun z => hj (h j z)
/-- a new item is laid behind the list that is being made -/
theorem push_made {H6 : Hp} {r6 : Rho} {O6 : Own} {D : Addr} {acc : List V} {yv : V} (R6 : Rel X.w X.K ms σ H6 r6 O6 (GA [D] G)) (hD : H6 D = some (.lst acc)) (hn : H D = none) (tr : ∀ b, G b → H b ≠ none) (E26 : Ext H O G H6 O6 (GA [D] G)) :
    Rel X.w X.K ms σ (upd H6 D (.lst (acc ++ [yv]))) r6 O6 (GA [D] G) ∧ Ext H O G (upd H6 D (.lst (acc ++ [yv]))) O6 (GA [D] G) ∧ msk (upd H6 D (.lst (acc ++ [yv]))) (Ow O6 (GA [D] G)) = msk H6 (Ow O6 (GA [D] G)) := by
  have hWD : Ow O6 (GA [D] G) D := .inl (.inl List.mem_cons_self)
  have me : msk (upd H6 D (.lst (acc ++ [yv]))) (Ow O6 (GA [D] G)) = msk H6 (Ow O6 (GA [D] G)) := by
    funext b
    by_cases q : Ow O6 (GA [D] G) b
    · rw [msk_in q, msk_in q]
    · rw [msk_out q, msk_out q, upd_ne (fun z => q (by rw [z]; exact hWD))]
  have nD : ∀ i, D ∉ O6 i := fun i z => R6.dG i D z (.inl List.mem_cons_self)
  refine ⟨⟨R6.len, fun i d e => ?_, R6.emp, fun b g => ?_, R6.dj, R6.dG⟩, ⟨by rw [me]; exact E26.sm, fun b g => ⟨.inr g, ?_⟩⟩, me⟩
  · obtain ⟨v, e1, rs⟩ := R6.slot i d e
    rw [me]
    exact ⟨v, e1, rs.mono (Same.refl _) fun b hb o z => by rw [upd_ne (fun z2 => nD i (by rw [← z2]; exact hb))]; exact z⟩
  · by_cases q : b = D
    · rw [q, upd_same]; exact fun z => nomatch z
    · rw [upd_ne q]; exact R6.tr b g
  · rw [upd_ne (fun z => tr b g (by rw [z]; exact hn))]
    exact (E26.gh b g).2
theorem lc2_read {X2 : Cx} (eW : X2.w = X.w) (eK : X2.K = X.K) (eN : X2.N = X.N) {i i1 : Rho → R (List D)} {is is1 vs vs1 : List Nat} {k k1 : D → Rho → Option Rho} {gt gt1 : TG} {t t1 : Rho → R Bool} {f : Rho → R D} (hvs : ∀ i ∈ vs, (ms i).sh = .pur) (his : ∀ i ∈ is, i ∈ vs) (his1 : ∀ i ∈ is1, i ∈ vs1) (hv1 : ∀ i ∈ vs1, i ∈ vs)
    (hg : CG X2 ms tg is k gt) (hg1 : CG X2 ms tg1 is1 k1 gt1) {Q : VK} (hl : σ.length = X.N.length) (h : tEo X W ms .lst (eComp2 vs vs1 i k t i1 k1 t1 f) σ H Q) : tLc2 (tI X W ms i) gt (tT X2 W0 ms t) (tI X2 W0 ms i1) gt1 (tT X2 W0 ms t1) (tE X2 W0 ms f) vs vs1 σ H Q := by
  obtain ⟨r, O, G, R, h⟩ := h
  unfold eComp2 at h
  rw [on_bind] at h
  refine tI_step R h fun ds r1 J H1 O1 h1 R1 E1 wk D hD => ?_
  obtain ⟨Rg, Eg⟩ := R1.guard (o := .lst []) hD
  have Rw : Rel X.w X.K ms (wipe σ vs) (upd H1 D (.lst [])) (wipeR r1 vs) O1 (GA [D] G) := Rg.wipe hvs
  rw [on_bind] at h1
  let P : List PyData → Rho → Prop := fun a r' => ∀ v H' O' A, Rel X.w X.K ms σ H' (restR r1 (wipeR r' vs) vs) O' (GA A G) → Ext H O G H' O' (GA A G) → (∀ a ∈ A, ¬G a) → RepS X.w X.K (msk H' (Ow O' (GA A G))) H' Shp.lst v (PyData.list a) A → Q v H'
  have hvs1 : ∀ i ∈ vs1, (ms i).sh = .pur := fun i hi => hvs i (hv1 i hi)
  refine ⟨fun n m H2 => ∃ r2 O2 acc ys, m = ds.length - n ∧ n ≤ ds.length ∧ Rel X.w X.K ms (wipe σ vs) H2 (wipeR r2 vs) O2 (GA [D] G) ∧ Ext H1 O1 G H2 O2 (GA [D] G) ∧ H2 D = some (.lst acc) ∧ RepAll X.K (msk H2 (Ow O2 (GA [D] G))) acc ys ∧
      (compO vs vs1 k t i1 k1 t1 f (ds.drop n) r2 ys).on P (fun _ _ _ => True),
    ⟨ds.length, r1, O1, [], [], by simp, Nat.zero_le _, Rw, Eg, upd_same, .nil, by rw [List.drop_zero]; exact h1.mono (fun _ _ z => z) fun _ _ _ _ => trivial⟩, ?_⟩
  rintro n m H2 ⟨r2, O2, acc, ys, rfl, hn, R2, E2, hacc, racc, h2⟩
  obtain ⟨w1, w2⟩ := wk H2 (Ow O2 (GA [D] G)) E2.sm R2.trO
  by_cases hlt : n < ds.length
  · obtain ⟨d, ed, edr⟩ := drop_cons hlt
    obtain ⟨go, yl⟩ := w1 n d ed
    refine .inr ⟨go, fun H' => ∃ r' O' acc' ys', Rel X.w X.K ms (wipe σ vs) H' (wipeR r' vs) O' (GA [D] G) ∧ Ext H1 O1 G H' O' (GA [D] G) ∧ H' D = some (.lst acc') ∧ RepAll X.K (msk H' (Ow O' (GA [D] G))) acc' ys' ∧
      (compO vs vs1 k t i1 k1 t1 f (ds.drop (n + 1)) r' ys').on P (fun _ _ _ => True),
      fun H' ⟨r', O', acc', ys', a1, a2, a3, a4, a5⟩ => ⟨ds.length - (n + 1), by omega, r', O', acc', ys', rfl, by omega, a1, a2, a3, a4, a5⟩, fun x H3 y => ?_⟩
    obtain ⟨sm3, rp⟩ := yl x H3 y
    have R3 := R2.same sm3
    have E3 : Ext H2 O2 (GA [D] G) H3 O2 (GA [D] G) := .same sm3 R2.tr
    rw [edr] at h2
    unfold compO at h2
    cases ek : k d (wipeR r2 vs) with
    | none => rw [ek] at h2; exact False.elim h2
    | some r4 =>
      rw [ek] at h2
      have hlw : (wipe σ vs).length = X2.N.length := by rw [wipe_length, eN]; exact hl
      refine hg.2 (σ := wipe σ vs) (H := H3) (r := wipeR r2 vs) (O := O2) (G := GA [D] G) (by rw [eW, eK]; exact R3) hlw (by rw [eK]; exact rp) ek fun σ4 R4 F4 o4 => ?_
      have hw4 : wipe σ4 vs = wipe σ vs := (wipe_eq F4.len fun j hj => o4 j fun z => hj (his j z)).trans wipe_wipe
      refine ⟨hw4, ?_⟩
      simp only at h2
      rw [on_bind] at h2
      refine tT_step R4 (noX_on h2) fun b r5 H5 O5 h5 R5 E5 => ?_
      have hD5 : H5 D = some (.lst acc) := by
        rw [(E5.gh D (.inl List.mem_cons_self)).2]
        exact sm3 D _ hacc
      have racc5 := racc.mono (E3.sm.trans E5.sm)
      cases b with
      | false =>
        rw [if_neg (by decide)] at h5 ⊢
        have Rz := R5.wipe hvs
        rw [hw4, eW, eK] at Rz
        exact ⟨_, O5, acc, ys, Rz, E2.trans (E3.trans E5), hD5, racc5, h5⟩
      | true =>
        rw [if_pos rfl] at h5 ⊢
        rw [on_bind] at h5
        refine tI_step R5 (noX_on h5) fun ds1 r6 J1 H6 O6 h6 R6 E6 wk1 => ?_
        rw [eW, eK] at R6
        rw [eK] at wk1
        have hD6 : H6 D = some (.lst acc) := by rw [(E6.gh D (.inl List.mem_cons_self)).2]; exact hD5
        have racc6 := racc5.mono E6.sm
        rw [on_bind] at h6
        have E06 : Ext H1 O1 G H6 O6 (GA [D] G) := E2.trans (E3.trans (E5.trans E6))
        have hl4 : σ4.length = X2.N.length := F4.len.trans hlw
        let P1 : List PyData → Rho → Prop := fun acc1 r4 => (compO vs vs1 k t i1 k1 t1 f (ds.drop (n + 1)) r4 acc1).on P (fun _ _ _ => True)
        refine ⟨fun n1 m1 H7 => ∃ r7 O7 acc7 ys7, m1 = ds1.length - n1 ∧ n1 ≤ ds1.length ∧ Rel X.w X.K ms (wipe σ4 vs1) H7 (wipeR r7 vs1) O7 (GA [D] G) ∧ Ext H1 O1 G H7 O7 (GA [D] G) ∧ Same (msk H6 (Ow O6 (GA [D] G))) (msk H7 (Ow O7 (GA [D] G))) ∧ H7 D = some (.lst acc7) ∧
            RepAll X.K (msk H7 (Ow O7 (GA [D] G))) acc7 ys7 ∧ (compI vs1 k1 t1 f (ds1.drop n1) r7 ys7).on P1 (fun _ _ _ => True),
          ⟨ds1.length, r6, O6, acc, ys, by simp, Nat.zero_le _, R6.wipe hvs1, E06, Same.refl _, hD6, racc6, by rw [List.drop_zero]; exact h6.mono (fun _ _ z => z) fun _ _ _ _ => trivial⟩, ?_⟩
        rintro n1 m1 H7 ⟨r7, O7, acc7, ys7, rfl, hn1, R7, E7, sm7, hacc7, racc7, h7⟩
        obtain ⟨v1, v2⟩ := wk1 H7 (Ow O7 (GA [D] G)) sm7 R7.trO
        by_cases hlt1 : n1 < ds1.length
        · obtain ⟨d1, ed1, edr1⟩ := drop_cons hlt1
          obtain ⟨go1, yl1⟩ := v1 n1 d1 ed1
          refine .inr ⟨go1, fun H' => ∃ r' O' acc' ys', Rel X.w X.K ms (wipe σ4 vs1) H' (wipeR r' vs1) O' (GA [D] G) ∧ Ext H1 O1 G H' O' (GA [D] G) ∧ Same (msk H6 (Ow O6 (GA [D] G))) (msk H' (Ow O' (GA [D] G))) ∧ H' D = some (.lst acc') ∧
            RepAll X.K (msk H' (Ow O' (GA [D] G))) acc' ys' ∧ (compI vs1 k1 t1 f (ds1.drop (n1 + 1)) r' ys').on P1 (fun _ _ _ => True),
            fun H' ⟨r', O', acc', ys', a1, a2, a3, a4, a5, a6⟩ => ⟨ds1.length - (n1 + 1), by omega, r', O', acc', ys', rfl, by omega, a1, a2, a3, a4, a5, a6⟩, fun x1 H8 y1 => ?_⟩
          obtain ⟨sm8, rp8⟩ := yl1 x1 H8 y1
          have R8 := R7.same sm8
          have E8 : Ext H7 O7 (GA [D] G) H8 O7 (GA [D] G) := .same sm8 R7.tr
          rw [edr1] at h7
          unfold compI at h7
          cases ek1 : k1 d1 (wipeR r7 vs1) with
          | none => rw [ek1] at h7; exact False.elim h7
          | some r9 =>
            rw [ek1] at h7
            have hlw1 : (wipe σ4 vs1).length = X2.N.length := by rw [wipe_length]; exact hl4
            refine hg1.2 (σ := wipe σ4 vs1) (H := H8) (r := wipeR r7 vs1) (O := O7) (G := GA [D] G) (by rw [eW, eK]; exact R8) hlw1 (by rw [eK]; exact rp8) ek1 fun σ9 R9 F9 o9 => ?_
            have hw9 : wipe σ9 vs1 = wipe σ4 vs1 := (wipe_eq F9.len fun j hj => o9 j fun z => hj (his1 j z)).trans wipe_wipe
            refine ⟨hw9, ?_⟩
            simp only at h7
            rw [on_bind] at h7
            refine tT_step R9 (noX_on h7) fun b2 r10 H10 O10 h10 R10 E10 => ?_
            have hD10 : H10 D = some (.lst acc7) := by
              rw [(E10.gh D (.inl List.mem_cons_self)).2]
              exact sm8 D _ hacc7
            have racc10 := racc7.mono (E8.sm.trans E10.sm)
            cases b2 with
            | false =>
              rw [if_neg (by decide)] at h10 ⊢
              have Rz := R10.wipe hvs1
              rw [hw9, eW, eK] at Rz
              exact ⟨_, O10, acc7, ys7, Rz, E7.trans (E8.trans E10), sm7.trans (E8.sm.trans E10.sm), hD10, racc10, h10⟩
            | true =>
              rw [if_pos rfl] at h10 ⊢
              rw [on_bind] at h10
              refine tE_step R10 (noX_on h10) fun yd r11 yv H11 O11 h11 R11 E11 p11 => ?_
              have hD11 : H11 D = some (.lst acc7) := by
                rw [(E11.gh D (.inl List.mem_cons_self)).2]
                exact hD10
              have racc11 := racc10.mono E11.sm
              split at h11
              · rename_i hz
                rw [← racc11.len] at hz
                refine ⟨acc7, hD11, hz, ?_⟩
                have Rz := R11.wipe hvs1
                rw [hw9, eW, eK] at Rz
                obtain ⟨Ru, Eu, me⟩ := push_made (yv := yv) Rz hD11 hD R1.tr (E7.trans (E8.trans (E10.trans E11)))
                rw [eK] at p11
                exact ⟨_, O11, _, ys7 ++ [yd], Ru, Eu, by rw [me]; exact sm7.trans (E8.sm.trans (E10.sm.trans E11.sm)), upd_same, by rw [me]; exact racc11.append (.cons p11 .nil), h11⟩
              · exact False.elim h11
        · have e1 : n1 = ds1.length := by omega
          subst e1
          rw [List.drop_length] at h7
          have Rz := R7.wipe hvs
          rw [wipe_in hv1, hw4, wipeR_wipeR hv1] at Rz
          exact .inl ⟨v2, r7, O7, acc7, ys7, Rz, E7, hacc7, racc7, h7⟩
  · have e : n = ds.length := by omega
    subst e
    rw [List.drop_length] at h2
    refine .inl ⟨w2, ?_⟩
    have E12 : Ext H O G H2 O2 (GA [D] G) := E1.trans E2
    exact h2 (.ref D) H2 O2 [D] (Rel.rest R2 rfl R1 hvs E2) E12 (fun a ha g => R1.tr a g (by rw [List.mem_singleton.mp ha]; exact hD)) (.lst hacc racc)
theorem ceo_lc2 {elt iter iter1 : Expr} {ifs ifs1 : List Expr} {scope : Scope} {own : List (Str × Nat)} {pos : Pos} {i i1 : Rho → R (List D)} {is is1 vs vs1 : List Nat} {k k1 : D → Rho → Option Rho} {gt gt1 : TG} {t t1 : Rho → R Bool} {f : Rho → R D} (hc : X.calm = true) (hN : X.N.Nodup) (hi : CI X W ms tg iter i) (ok : BlkOk X.N X.env.scope scope own)
    (hg : ∀ (s : Shared) (H : Hp) (C : Addr) (cl : List (Str × Addr)) (fp : List Addr), CG (X.blk s H scope (compEnvC scope cl C X.env) fp) ms tg is k gt)
    (ht : ∀ (s : Shared) (H : Hp) (C : Addr) (cl : List (Str × Addr)) (fp : List Addr), PTs (X.blk s H scope (compEnvC scope cl C X.env) fp) ifs (tT (X.blk s H scope (compEnvC scope cl C X.env) fp) W0 ms t))
    (hi1 : ∀ (s : Shared) (H : Hp) (C : Addr) (cl : List (Str × Addr)) (fp : List Addr), CI (X.blk s H scope (compEnvC scope cl C X.env) fp) W0 ms tg1 iter1 i1)
    (hg1 : ∀ (s : Shared) (H : Hp) (C : Addr) (cl : List (Str × Addr)) (fp : List Addr), CG (X.blk s H scope (compEnvC scope cl C X.env) fp) ms tg1 is1 k1 gt1)
    (ht1 : ∀ (s : Shared) (H : Hp) (C : Addr) (cl : List (Str × Addr)) (fp : List Addr), PTs (X.blk s H scope (compEnvC scope cl C X.env) fp) ifs1 (tT (X.blk s H scope (compEnvC scope cl C X.env) fp) W0 ms t1))
    (he : ∀ (s : Shared) (H : Hp) (C : Addr) (cl : List (Str × Addr)) (fp : List Addr), CE (X.blk s H scope (compEnvC scope cl C X.env) fp) W0 ms elt f)
    (hv : own.map (·.2) = vs := by rfl) (hvs : ∀ i ∈ vs, (ms i).sh = .pur := by decide) (his : ∀ i ∈ is, i ∈ vs := by decide) (his1 : ∀ i ∈ is1, i ∈ vs1 := by decide) (hv1 : ∀ i ∈ vs1, i ∈ vs := by decide)
    (hs : ∀ x, foldedSetIterable iter X.env x = pure x := by intro _; rfl) (hs1 : ∀ env x, foldedSetIterable iter1 env x = pure x := by intro _ _; rfl) :
    CEo X W ms .lst (.ListComp elt [⟨tg, iter, ifs, 0⟩, ⟨tg1, iter1, ifs1, 0⟩] scope pos) (eComp2 vs vs1 i k t i1 k1 t1 f) := by
  subst hv
  refine ⟨fun pins s σ H Q I h => ?_⟩
  exact (pe_lc2 (wi := tI X W ms i) (g := gt) (tt := tT X W0 ms t) (wi1 := tI X W0 ms i1) (g1 := gt1) (tt1 := tT X W0 ms t1) (te := tE X W0 ms f) (vs1 := vs1) hc hN hi ok hv1 (fun s H C cl fp => (hg s H C cl fp).1) ht hi1 (fun s H C cl fp => (hg1 s H C cl fp).1) ht1 he hs hs1).run pins s σ H Q I
    (lc2_read (X := X) (X2 := X.blk s H scope (compEnvC scope [] 0 X.env) []) rfl rfl rfl hvs his his1 hv1 (hg s H 0 [] []) (hg1 s H 0 [] []) I.len h)
theorem cs_setLc2 (j : Nat) {y : Str} {py : Pos} {elt iter iter1 : Expr} {ifs ifs1 : List Expr} {scope : Scope} {own : List (Str × Nat)} {pos spos : Pos} {i i1 : Rho → R (List D)} {is is1 vs vs1 : List Nat} {k k1 : D → Rho → Option Rho} {gt gt1 : TG} {t t1 : Rho → R Bool} {f : Rho → R D} (hc : X.calm = true) (hN : X.N.Nodup) (hi : CI X W ms tg iter i) (ok : BlkOk X.N X.env.scope scope own)
    (hg : ∀ (s : Shared) (H : Hp) (C : Addr) (cl : List (Str × Addr)) (fp : List Addr), CG (X.blk s H scope (compEnvC scope cl C X.env) fp) ms tg is k gt)
    (ht : ∀ (s : Shared) (H : Hp) (C : Addr) (cl : List (Str × Addr)) (fp : List Addr), PTs (X.blk s H scope (compEnvC scope cl C X.env) fp) ifs (tT (X.blk s H scope (compEnvC scope cl C X.env) fp) W0 ms t))
    (hi1 : ∀ (s : Shared) (H : Hp) (C : Addr) (cl : List (Str × Addr)) (fp : List Addr), CI (X.blk s H scope (compEnvC scope cl C X.env) fp) W0 ms tg1 iter1 i1)
    (hg1 : ∀ (s : Shared) (H : Hp) (C : Addr) (cl : List (Str × Addr)) (fp : List Addr), CG (X.blk s H scope (compEnvC scope cl C X.env) fp) ms tg1 is1 k1 gt1)
    (ht1 : ∀ (s : Shared) (H : Hp) (C : Addr) (cl : List (Str × Addr)) (fp : List Addr), PTs (X.blk s H scope (compEnvC scope cl C X.env) fp) ifs1 (tT (X.blk s H scope (compEnvC scope cl C X.env) fp) W0 ms t1))
    (he : ∀ (s : Shared) (H : Hp) (C : Addr) (cl : List (Str × Addr)) (fp : List Addr), CE (X.blk s H scope (compEnvC scope cl C X.env) fp) W0 ms elt f)
    (hy : X.N[j]? = some y := by rfl) (hyl : X.env.scope.names.lookup y = some .local := by rfl) (hf : (ms j).fx = false := by rfl)
    (hsw : swapsWith (.ListComp elt [⟨tg, iter, ifs, 0⟩, ⟨tg1, iter1, ifs1, 0⟩] scope pos) (some (.Name y py)) spos.line X.env = pure true := by exact sw_true rfl rfl rfl (by decide +kernel))
    (hv : own.map (·.2) = vs := by rfl) (hvs : ∀ i ∈ vs, (ms i).sh = .pur := by decide) (his : ∀ i ∈ is, i ∈ vs := by decide) (his1 : ∀ i ∈ is1, i ∈ vs1 := by decide) (hv1 : ∀ i ∈ vs1, i ∈ vs := by decide)
    (hs : ∀ x, foldedSetIterable iter X.env x = pure x := by intro _; rfl) (hs1 : ∀ env x, foldedSetIterable iter1 env x = pure x := by intro _ _; rfl) (sh : Shp) (hok : sh = .lst ∨ sh = .pur) (hsh : (ms j).sh = sh := by rfl) :
    CS X W ms rs (.Assign [.Name y py] (.ListComp elt [⟨tg, iter, ifs, 0⟩, ⟨tg1, iter1, ifs1, 0⟩] scope pos) spos) (sSet j (eComp2 vs vs1 i k t i1 k1 t1 f)) := by
  subst hv
  refine ⟨fun pins s σ H E I h => ?_⟩
  refine (ps_setLc2 (i := j) (wi := tI X W ms i) (g := gt) (tt := tT X W0 ms t) (wi1 := tI X W0 ms i1) (g1 := gt1) (tt1 := tT X W0 ms t1) (te := tE X W0 ms f) (vs1 := vs1) hc hN hy hyl hsw hi ok hv1 (fun s H C cl fp => (hg s H C cl fp).1) ht hi1 (fun s H C cl fp => (hg1 s H C cl fp).1) ht1 he hs hs1).run pins s σ H E I
    (lc2_read (X := X) (W := W) (X2 := X.blk s H scope (compEnvC scope [] 0 X.env) []) rfl rfl rfl hvs his his1 hv1 (hg s H 0 [] []) (hg1 s H 0 [] []) I.len ?_)
  obtain ⟨r, O, G, R, h⟩ := h
  refine tEo_step R (toS_on h) fun d r' v H' O' A q R' e' n rp => ?_
  rcases hok with rfl | rfl
  · exact q (σ.set j (some v)) H' (updO O' j A) (R'.setOwn n (loc_lt R' I.len hy) (by rw [hsh]; exact rp)) ⟨e'.sm.trans (msk_less fun a z => ow_ga z), fun a g => ⟨g, (e'.gh a g).2⟩⟩ (fx_set hf)
  · exact q (σ.set j (some v)) H' O' (R'.free.set hsh (loc_lt R' I.len hy) (rep_free R' n rfl rp)) (ext_free e') (fx_set hf)
end
end DL
end

section
set_option maxHeartbeats 1000000
namespace DL
open PySem PySem.Spec PyProof.Rows L2
/-! ## a name changes its mode: from a value that nobody changes to a list of one's own, and back -/
def msP (ms : Ms) (i : Nat) : Ms := fun j => if j = i then {} else ms j
def msL (ms : Ms) (i : Nat) : Ms := fun j => if j = i then { sh := .lst } else ms j
def dropS (i : Nat) : SR → SR
  | .nx r => .nx (r.set i none)
  | .rt d r => .rt d (r.set i none)
  | .bk r => .bk (r.set i none)
  | .ct r => .ct (r.set i none)
  | .exc c x r => .exc c x (r.set i none)
  | .bad => .bad
def sFrz (i : Nat) (k : Rho → SR) : Rho → SR := fun r => dropS i (k r)
def sThw (i : Nat) (k : Rho → SR) : Rho → SR := fun r => dropS i (k (r.set i none))
section
variable {X : Cx} {W : WX} {ms ms' : Ms} {rs : Shp} {σ : L2.St} {H H' : Hp} {r r' : Rho} {O O' : Own} {G : Gh} {E : Ends} {w : World} {K : PySem.W.Frag}
theorem set_none {r : Rho} {i : Nat} {d : D} : (r.set i none)[i]? ≠ some (some d) := by
  rw [List.getElem?_set]
  split
  · split <;> exact fun z => nomatch z
  · rename_i z; exact absurd rfl z
/-- an empty slot may have any shape -/
theorem Rel.chg {i : Nat} (h : Rel w K ms σ H r O G) (hi : ∀ d, r[i]? ≠ some (some d)) (e : ∀ j, j ≠ i → (ms' j).sh = (ms j).sh) : Rel w K ms' σ H r O G where
  len := h.len
  slot := fun j d ej => by
    have ne : j ≠ i := fun z => hi d (by rw [← z]; exact ej)
    rw [e j ne]
    exact h.slot j d ej
  emp := h.emp
  tr := h.tr
  dj := h.dj
  dG := h.dG
theorem Fx.chg {σ σ' : L2.St} (f : Fx ms' σ σ') (e : ∀ j, (ms j).fx = true → (ms' j).fx = true) : Fx ms σ σ' := ⟨f.len, fun i hi => f.at_ i (e i hi)⟩
/-- a list of one's own is let go: from now on a value that nobody changes -/
theorem Rel.frz {i : Nat} (h : Rel w K ms σ H r O G) (hi : (ms i).sh = .lst) : Rel w K (msP ms i) σ H r (updO O i []) G ∧ Ext H O G H (updO O i []) G := by
  have sm : Same (msk H (Ow O G)) (msk H (Ow (updO O i []) G)) := msk_less fun a z => by
    rcases z with g | ⟨j, hj⟩
    · exact .inl g
    · by_cases q : j = i
      · subst q; rw [updO_same] at hj; cases hj
      · rw [updO_ne q] at hj; exact .inr ⟨j, hj⟩
  refine ⟨⟨h.len, fun j d e => ?_, fun j hj => ?_, h.tr, fun j k a hj hk => ?_, fun j a hj => ?_⟩, ⟨sm, fun a g => ⟨g, rfl⟩⟩⟩
  · obtain ⟨v, e1, rs⟩ := h.slot j d e
    refine ⟨v, e1, ?_⟩
    by_cases q : j = i
    · subst q
      rw [updO_same]
      show RepS _ _ _ _ (if j = j then ({} : Md) else ms j).sh _ _ _
      rw [if_pos rfl]
      rw [hi] at rs
      generalize hA : O j = A at rs
      cases rs with
      | lst hh rr =>
        refine .pur (.lst (.inl (msk_mk ?_ hh)) (rr.mono sm))
        rename_i a vs ds
        rintro (g | ⟨k, hk⟩)
        · exact h.dG j a (by rw [hA]; exact List.mem_cons_self) g
        · by_cases q : k = j
          · subst q; rw [updO_same] at hk; cases hk
          · rw [updO_ne q] at hk
            exact q (h.dj k j a hk (by rw [hA]; exact List.mem_cons_self))
    · rw [updO_ne q]
      show RepS _ _ _ _ (if j = i then ({} : Md) else ms j).sh _ _ _
      rw [if_neg q]
      exact rs.mono sm fun _ _ _ z => z
  · by_cases q : j = i
    · subst q; exact updO_same
    · rw [updO_ne q]; exact h.emp j hj
  · by_cases q : j = i
    · subst q; rw [updO_same] at hj; cases hj
    · rw [updO_ne q] at hj
      by_cases q2 : k = i
      · subst q2; rw [updO_same] at hk; cases hk
      · rw [updO_ne q2] at hk; exact h.dj j k a hj hk
  · by_cases q : j = i
    · subst q; rw [updO_same] at hj; cases hj
    · rw [updO_ne q] at hj; exact h.dG j a hj
/-- what is behind a block whose slot i was let go -/
theorem SOn.drop {i : Nat} {s : SR} (e : ∀ j, j ≠ i → (ms j).sh = (ms' j).sh) (ef : ∀ j, (ms j).fx = true → (ms' j).fx = true) (E0 : Ext H O G H O' G) (h : SOn X W ms rs E σ H O G (dropS i s)) : SOn X W ms' rs E σ H O' G s := by
  have back : ∀ {σ' : L2.St} {H' : Hp} {r' : Rho} {O2 : Own} {G' : Gh}, Rel X.w X.K ms' σ' H' r' O2 G' → Rel X.w X.K ms σ' H' (r'.set i none) (updO O2 i []) G' := fun R => (R.drop i).chg (fun d => set_none) fun j hj => e j hj
  have ex : ∀ {H' : Hp} {O2 : Own} {G' : Gh}, Ext H O' G H' O2 G' → Ext H O G H' (updO O2 i []) G' := fun {H' O2 G'} E1 => (E0.trans E1).trans ⟨msk_less fun a z => by
      rcases z with g | ⟨j, hj⟩
      · exact .inl g
      · by_cases q : j = i
        · subst q; rw [updO_same] at hj; cases hj
        · rw [updO_ne q] at hj; exact .inr ⟨j, hj⟩, fun a g => ⟨g, rfl⟩⟩
  cases s with
  | nx r' => exact fun σ' H' O2 R E1 F => h σ' H' _ (back R) (ex E1) (F.chg ef)
  | bk r' => exact fun σ' H' O2 R E1 F => h σ' H' _ (back R) (ex E1) (F.chg ef)
  | ct r' => exact fun σ' H' O2 R E1 F => h σ' H' _ (back R) (ex E1) (F.chg ef)
  | rt d r' => exact fun v σ' H' O2 A R E1 n F q => h v σ' H' _ A (back R) (ex E1) n (F.chg ef) (q.mono (msk_less fun a z => by
      rcases z with g | ⟨j, hj⟩
      · exact .inl g
      · by_cases q : j = i
        · subst q; rw [updO_same] at hj; cases hj
        · rw [updO_ne q] at hj; exact .inr ⟨j, hj⟩) fun _ _ _ z => z)
  | exc c x r' => exact fun cv dx σ' H' O2 R E1 F q => h cv dx σ' H' _ (back R) (ex E1) (F.chg ef) q
  | bad => exact h
theorem css_frz (i : Nat) {ss : List Stmt} {k : Rho → SR} (h : CSs X W (msP ms i) rs ss k) (hi : (ms i).sh = .lst := by rfl) (hf : (ms i).fx = false := by rfl) : CSs X W ms rs ss (sFrz i k) :=
  h.weak fun E σ H ⟨r, O, G, R, q⟩ => by
    obtain ⟨R1, E1⟩ := R.frz hi
    refine ⟨r, _, G, R1, SOn.drop (ms := ms) (fun j hj => ?_) (fun j hj => ?_) E1 q⟩
    · show (ms j).sh = (if j = i then ({} : Md) else ms j).sh
      rw [if_neg hj]
    · show (if j = i then ({} : Md) else ms j).fx = true
      by_cases z : j = i
      · subst z; rw [hf] at hj; cases hj
      · rw [if_neg z]; exact hj
theorem css_thw (i : Nat) {ss : List Stmt} {k : Rho → SR} (h : CSs X W (msL ms i) rs ss k) (hf : (ms i).fx = false := by rfl) : CSs X W ms rs ss (sThw i k) :=
  h.weak fun E σ H ⟨r, O, G, R, q⟩ => by
    have R1 : Rel X.w X.K (msL ms i) σ H (r.set i none) (updO O i []) G := (R.drop i).chg (fun d => set_none) fun j hj => by
      show (if j = i then ({ sh := .lst } : Md) else ms j).sh = _
      rw [if_neg hj]
    have E1 : Ext H O G H (updO O i []) G := ⟨msk_less fun a z => by
      rcases z with g | ⟨j, hj⟩
      · exact .inl g
      · by_cases q : j = i
        · subst q; rw [updO_same] at hj; cases hj
        · rw [updO_ne q] at hj; exact .inr ⟨j, hj⟩, fun a g => ⟨g, rfl⟩⟩
    refine ⟨_, _, G, R1, SOn.drop (ms := ms) (fun j hj => ?_) (fun j hj => ?_) E1 q⟩
    · show (ms j).sh = (if j = i then ({ sh := .lst } : Md) else ms j).sh
      rw [if_neg hj]
    · show (if j = i then ({ sh := .lst } : Md) else ms j).fx = true
      by_cases z : j = i
      · subst z; rw [hf] at hj; cases hj
      · rw [if_neg z]; exact hj
end
theorem nnx_bad : Nnx sBad := fun r r' h => nomatch h
theorem nnx_frz {i : Nat} {k : Rho → SR} (h : Nnx k) : Nnx (sFrz i k) := fun r r' e => by
  unfold sFrz at e
  cases q : k r with
  | nx r2 => exact h r r2 q
  | _ => rw [q] at e; cases e
theorem nnx_thw {i : Nat} {k : Rho → SR} (h : Nnx k) : Nnx (sThw i k) := fun r r' e => by
  unfold sThw at e
  cases q : k (r.set i none) with
  | nx r2 => exact h _ r2 q
  | _ => rw [q] at e; cases e
theorem bt_sorted : bootBuiltins "sorted" = some (.builtin "sorted") := PyProof.Rows.boot_sorted
end DL
end

section
namespace DL
open PySem PySem.Spec PyProof.Rows L2 TL
/-! evaluation, for simp -/
section
variable {α β : Type}
@[simp] theorem bind_ok (a : α) (r : Rho) (k : α → Rho → R β) : (R.ok a r).bind k = k a r := Eq.trans rfl rfl
@[simp] theorem bind_exc (c : Str) (x : D) (r : Rho) (k : α → Rho → R β) : (R.exc c x r).bind k = .exc c x r := Eq.trans rfl rfl
@[simp] theorem bind_bad (k : α → Rho → R β) : (R.bad).bind k = .bad := Eq.trans rfl rfl
@[simp] theorem sbind_nx (r : Rho) (k : Rho → SR) : (SR.nx r).bind k = k r := Eq.trans rfl rfl
@[simp] theorem sbind_rt (d : D) (r : Rho) (k : Rho → SR) : (SR.rt d r).bind k = .rt d r := Eq.trans rfl rfl
@[simp] theorem sbind_bk (r : Rho) (k : Rho → SR) : (SR.bk r).bind k = .bk r := Eq.trans rfl rfl
@[simp] theorem sbind_ct (r : Rho) (k : Rho → SR) : (SR.ct r).bind k = .ct r := Eq.trans rfl rfl
@[simp] theorem sbind_exc (c : Str) (x : D) (r : Rho) (k : Rho → SR) : (SR.exc c x r).bind k = .exc c x r := Eq.trans rfl rfl
@[simp] theorem toS_ok (a : α) (r : Rho) (k : α → Rho → SR) : (R.ok a r).toS k = k a r := Eq.trans rfl rfl
@[simp] theorem toS_exc (c : Str) (x : D) (r : Rho) (k : α → Rho → SR) : (R.exc c x r).toS k = .exc c x r := Eq.trans rfl rfl
@[simp] theorem ofO_some (a : α) (r : Rho) : R.ofO (some a) r = .ok a r := Eq.trans rfl rfl
@[simp] theorem noX_ok (a : α) (r : Rho) : (R.ok a r).noX = .ok a r := Eq.trans rfl rfl
end
variable (r : Rho) (f g k h : Rho → R D) (o p q : Rho → R Opd) (as : Rho → R (List Opd)) (t u : Rho → R Bool) (s s' : Rho → SR) (i : Nat) (d : D)
@[simp] theorem v_var : eVar i r = .ofO ((r[i]?).join) r := Eq.trans rfl rfl
@[simp] theorem v_cst : eCst d r = .ok d r := Eq.trans rfl rfl
@[simp] theorem v_val : oVal f r = (f r).bind fun d r' => .ok (.val d) r' := Eq.trans rfl rfl
@[simp] theorem v_slot : oSlot i r = match (r[i]?).join with
  | some _ => .ok (.slot i) r
  | none => .bad := Eq.trans rfl rfl
@[simp] theorem v_mv : eMv i r = match (r[i]?).join with
  | some d => .ok d (r.set i none)
  | none => .bad := Eq.trans rfl rfl
@[simp] theorem v_getv : (Opd.val d).get r = some d := Eq.trans rfl rfl
@[simp] theorem v_gets : (Opd.slot i).get r = dropX ((r[i]?).join) := Eq.trans rfl rfl
@[simp] theorem dropX_lst (ds : List D) : dropX (some (.list ds)) = some (.list ds) := Eq.trans rfl rfl
@[simp] theorem dropX_tup (ds : List D) : dropX (some (.tuple ds)) = some (.tuple ds) := Eq.trans rfl rfl
@[simp] theorem dropX_str (z : Str) : dropX (some (.str z)) = some (.str z) := Eq.trans rfl rfl
@[simp] theorem dropX_int (z : Int) : dropX (some (.int z)) = some (.int z) := Eq.trans rfl rfl
@[simp] theorem v_pNone : pNone r = .ok none r := Eq.trans rfl rfl
@[simp] theorem v_pSome : pSome f r = (f r).bind fun d r1 => match d with
  | .int i => .ok (some i) r1
  | _ => .bad := Eq.trans rfl rfl
@[simp] theorem v_sl (g k : Rho → R (Option Int)) : eSl o g k r = (o r).bind fun o r1 => (g r1).bind fun lo r2 => (k r2).bind fun hi r3 => .ofO ((o.get r3).bind fun d => dSl d lo hi) r3 := Eq.trans rfl rfl
@[simp] theorem v_inst (T : String) : eInst T o r = (o r).bind fun o r1 => .ofO (((o.get r1).bind (instT T)).map .bool) r1 := Eq.trans rfl rfl
@[simp] theorem v_inRng : eInRng o as r = (o r).bind fun o r1 => (as r1).bind fun os r2 => match o.get r2, gets r2 os with
  | some (.int i), some [.int j] => .ok (.bool (decide (0 ≤ i ∧ i < j))) r2
  | _, _ => .bad := Eq.trans rfl rfl
@[simp] theorem v_fnE (o : Option D) : eFnE i o r = match (r[i]?).join with
  | some (.dict _) => .ofO o r
  | _ => .bad := Eq.trans rfl rfl
@[simp] theorem v_raise (c : Str) : sRaise c r = .exc c .none r := Eq.trans rfl rfl
@[simp] theorem v_isE (c : Str) (tab : List (Str × Bool)) : eIsE i c tab r = match (r[i]?).join with
  | some (.dict _) => .ofO ((tab.lookup c).map .bool) r
  | _ => .bad := Eq.trans rfl rfl
@[simp] theorem v_tryAs (tab : List (Str × Bool)) (h : Str → Rho → SR) : sTryAs i tab s h r = match s r with
  | .exc c .none r1 => match tab.lookup c with
    | some true => unAs i (h c (r1.set i (some (excV c))))
    | some false => .exc c .none r1
    | none => .bad
  | .exc _ _ _ => .bad
  | s => s := Eq.trans rfl rfl
@[simp] theorem v_try (tab : List (Str × Bool)) (h : Rho → SR) : sTry tab s h r = match s r with
  | .exc c .none r1 => match tab.lookup c with
    | some true => noExc (h r1)
    | some false => .exc c .none r1
    | none => .bad
  | .exc _ _ _ => .bad
  | s => s := Eq.trans rfl rfl
@[simp] theorem unAs_rt (d : D) : unAs i (.rt d r) = .rt d (r.set i none) := Eq.trans rfl rfl
@[simp] theorem unAs_nx : unAs i (.nx r) = .nx (r.set i none) := Eq.trans rfl rfl
@[simp] theorem noExc_rt (d : D) : noExc (.rt d r) = .rt d r := Eq.trans rfl rfl
@[simp] theorem noExc_nx : noExc (.nx r) = .nx r := Eq.trans rfl rfl
@[simp] theorem v_kNil : kNil [] r = some r := Eq.trans rfl rfl
@[simp] theorem v_kCons (k : D → Rho → Option Rho) (l : List D → Rho → Option Rho) (ds : List D) : kCons k l (d :: ds) r = (k d r).bind fun r1 => l ds r1 := Eq.trans rfl rfl
@[simp] theorem v_kSeqT (n : Nat) (l : List D → Rho → Option Rho) (ds : List D) : kSeq n l (.tuple ds) r = if ds.length = n then l ds r else none := Eq.trans rfl rfl
@[simp] theorem v_kSeqL (n : Nat) (l : List D → Rho → Option Rho) (ds : List D) : kSeq n l (.list ds) r = if ds.length = n then l ds r else none := Eq.trans rfl rfl
@[simp] theorem v_kTup (n : Nat) (l : List D → Rho → Option Rho) (ds : List D) : kTup n l (.tuple ds) r = if ds.length = n then l ds r else none := Eq.trans rfl rfl
@[simp] theorem dAdd2_int (i j : Int) : dAdd2 (.int i) (.int j) = some (.int (i + j)) := Eq.trans rfl rfl
@[simp] theorem dAdd4_int (i j : Int) : dAdd4 (.int i) (.int j) = some (.int (i + j)) := Eq.trans rfl rfl
theorem dAdd4_str (a b : Str) : dAdd4 (.str a) (.str b) = dAdd (.str a) (.str b) := Eq.trans rfl rfl
theorem dAdd4_tup (a b : List D) : dAdd4 (.tuple a) (.tuple b) = dAdd2 (.tuple a) (.tuple b) := Eq.trans rfl rfl
theorem dAdd2_str (a b : Str) : dAdd2 (.str a) (.str b) = dAdd (.str a) (.str b) := Eq.trans rfl rfl
theorem dMul3_int (i j : Int) : dMul3 (.int i) (.int j) = dMul (.int i) (.int j) := Eq.trans rfl rfl
theorem dMul5_int (i j : Int) : dMul5 (.int i) (.int j) = dMul (.int i) (.int j) := Eq.trans rfl rfl
theorem dMul5_str (a : Str) (j : Int) : dMul5 (.str a) (.int j) = dMul (.str a) (.int j) := Eq.trans rfl rfl
theorem dMul3_str (a : Str) (j : Int) : dMul3 (.str a) (.int j) = dMul (.str a) (.int j) := Eq.trans rfl rfl
@[simp] theorem v_bin (sem : D → D → Option D) : eBin sem o p r = (o r).bind fun a r1 => (p r1).bind fun b r2 => .ofO ((a.get r2).bind fun x => (b.get r2).bind fun y => sem x y) r2 := Eq.trans rfl rfl
@[simp] theorem v_chain (sem sem' : D → D → Option D) : eChain sem sem' o p q r = (o r).bind fun a r1 => (p r1).bind fun b r2 =>
  match ((a.get r2).bind fun x => (b.get r2).bind fun y => sem x y) with
  | some (.bool true) => (q r2).bind fun c r3 => .ofO ((b.get r3).bind fun x => (c.get r3).bind fun y => sem' x y) r3
  | some (.bool false) => .ok (.bool false) r2
  | _ => .bad := Eq.trans rfl rfl
@[simp] theorem v_tru : tTru o r = (o r).bind fun o r1 => .ofO ((o.get r1).bind tru) r1 := Eq.trans rfl rfl
@[simp] theorem v_tNot : tNot t r = (t r).bind fun b r1 => .ok (!b) r1 := Eq.trans rfl rfl
@[simp] theorem v_tAnd : tAnd t u r = (t r).bind fun b r1 => if b = true then u r1 else .ok false r1 := Eq.trans rfl rfl
@[simp] theorem v_tOr : tOr t u r = (t r).bind fun b r1 => if b = true then .ok true r1 else u r1 := Eq.trans rfl rfl
@[simp] theorem v_and : eAnd f g r = (f r).bind fun d r1 => match tru d with
  | some true => g r1
  | some false => .ok d r1
  | none => .bad := Eq.trans rfl rfl
@[simp] theorem v_or : eOr f g r = (f r).bind fun d r1 => match tru d with
  | some true => .ok d r1
  | some false => g r1
  | none => .bad := Eq.trans rfl rfl
@[simp] theorem v_not : eNot f r = (f r).bind fun d r1 => match tru d with
  | some b => .ok (.bool !b) r1
  | none => .bad := Eq.trans rfl rfl
@[simp] theorem v_if : eIf t f g r = (t r).bind fun b r1 => if b = true then f r1 else g r1 := Eq.trans rfl rfl
@[simp] theorem v_nil : aNil r = .ok [] r := Eq.trans rfl rfl
@[simp] theorem v_cons : aCons o as r = (o r).bind fun o r1 => (as r1).bind fun os r2 => .ok (o :: os) r2 := Eq.trans rfl rfl
@[simp] theorem g_nil : gets r [] = some [] := Eq.trans rfl rfl
@[simp] theorem g_cons (o : Opd) (os : List Opd) : gets r (o :: os) = (o.get r).bind fun d => (gets r os).bind fun ds => some (d :: ds) := Eq.trans rfl rfl
@[simp] theorem vals_nil : vals [] = some [] := Eq.trans rfl rfl
@[simp] theorem vals_val (os : List Opd) : vals (.val d :: os) = (vals os).bind fun ds => some (d :: ds) := Eq.trans rfl rfl
@[simp] theorem v_tup : eTup as r = (as r).bind fun os r1 => .ofO ((vals os).bind fun ds => if ds.length ≤ sizeLine then some (.tuple ds) else none) r1 := Eq.trans rfl rfl
@[simp] theorem v_lst : eLst as r = (as r).bind fun os r1 => .ofO ((vals os).bind fun ds => if ds.length ≤ sizeLine then some (.list ds) else none) r1 := Eq.trans rfl rfl
@[simp] theorem v_call (sem : List D → Option D) : eCall sem as r = (as r).bind fun os r1 => .ofO ((gets r1 os).bind sem) r1 := Eq.trans rfl rfl
@[simp] theorem v_callL (sem : List D → Option (List D)) : eCallL sem as r = (as r).bind fun os r1 => .ofO ((gets r1 os).bind fun ds => (sem ds).bind fun es => some (.list es)) r1 := Eq.trans rfl rfl
@[simp] theorem v_meth (T : String) (sem : D → List D → Option D) : eMeth T sem o as r = (o r).bind fun o r1 => match (o.get r1).map (tyD T) with
  | some true => (as r1).bind fun os r2 => .ofO ((o.get r2).bind fun c => (gets r2 os).bind fun ds => sem c ds) r2
  | _ => .bad := Eq.trans rfl rfl
@[simp] theorem v_methL (T : String) (sem : D → List D → Option (List D)) : eMethL T sem o as r = (o r).bind fun o r1 => match (o.get r1).map (tyD T) with
  | some true => (as r1).bind fun os r2 => .ofO ((o.get r2).bind fun c => (gets r2 os).bind fun ds => (sem c ds).bind fun es => some (.list es)) r2
  | _ => .bad := Eq.trans rfl rfl
@[simp] theorem v_mut (sem : List D → List D → Option (List D × D)) : eMut i sem as r = match (r[i]?).join with
  | some (.list _) => (as r).bind fun os r2 => match (r2[i]?).join with
    | some (.list cs) => match (vals os).bind fun ds => sem cs ds with
      | some (es, d) => .ok d (r2.set i (some (.list es)))
      | none => .bad
    | _ => .bad
  | _ => .bad := Eq.trans rfl rfl
@[simp] theorem v_snil : sNil r = .nx r := Eq.trans rfl rfl
@[simp] theorem v_seq : sSeq s s' r = (s r).bind s' := Eq.trans rfl rfl
@[simp] theorem v_pass : sPass r = .nx r := Eq.trans rfl rfl
@[simp] theorem v_break : sBreak r = .bk r := Eq.trans rfl rfl
@[simp] theorem v_cont : sCont r = .ct r := Eq.trans rfl rfl
@[simp] theorem v_expr : sExpr f r = (f r).toS fun _ r1 => .nx r1 := Eq.trans rfl rfl
@[simp] theorem v_ret : sRet f r = (f r).toS fun d r1 => .rt d r1 := Eq.trans rfl rfl
@[simp] theorem v_retN : sRetN r = .rt .none r := Eq.trans rfl rfl
@[simp] theorem v_sif : sIf t s s' r = (t r).toS fun b r1 => if b = true then s r1 else s' r1 := Eq.trans rfl rfl
@[simp] theorem v_set : sSet i f r = (f r).toS fun d r1 => .nx (r1.set i (some d)) := Eq.trans rfl rfl
@[simp] theorem v_aug (sem : D → D → Option D) : sAug i sem o r = match (r[i]?).join with
  | some x => (o r).toS fun o r1 => match (o.get r1).bind fun y => sem x y with
    | some d => .nx (r1.set i (some d))
    | none => .bad
  | none => .bad := Eq.trans rfl rfl
@[simp] theorem v_kName : kName i d r = some (r.set i (some d)) := Eq.trans rfl rfl
@[simp] theorem v_asg (k : D → Rho → Option Rho) : sAsg k f r = (f r).toS fun d r1 => match k d r1 with
  | some r2 => .nx r2
  | none => .bad := Eq.trans rfl rfl
@[simp] theorem v_iAny : iAny f r = (f r).bind fun d r1 => match d with
  | .list ds => .ok ds r1
  | .tuple ds => .ok ds r1
  | .str z => .ok (z.cps.toList.map sgn) r1
  | _ => .bad := Eq.trans rfl rfl
@[simp] theorem v_rng1 : iRng1 as r = (as r).bind fun os r1 => match gets r1 os with
  | some [.int j] => if inR j = true then .ok (rngD 0 j.toNat) r1 else .bad
  | _ => .bad := Eq.trans rfl rfl
@[simp] theorem v_rng2 : iRng2 as r = (as r).bind fun os r1 => match gets r1 os with
  | some [.int i, .int j] => if (inR i && inR j) = true then .ok (rngD i (j - i).toNat) r1 else .bad
  | _ => .bad := Eq.trans rfl rfl
@[simp] theorem v_for (f : Rho → R (List D)) (k : D → Rho → Option Rho) : sFor f k s r = (f r).toS fun ds r1 => forE k s ds r1 := Eq.trans rfl rfl
@[simp] theorem v_tBool : tBool f r = (f r).bind fun d r1 => match d with
  | .bool b => .ok b r1
  | _ => .bad := Eq.trans rfl rfl
@[simp] theorem v_neg : eNeg f r = (f r).bind fun d r1 => match d with
  | .int i => .ok (.int (-i)) r1
  | _ => .bad := Eq.trans rfl rfl
@[simp] theorem v_comp (vs : List Nat) (i : Rho → R (List D)) (k : D → Rho → Option Rho) : eComp vs i k t f r = (i r).bind fun ds r1 => (compL vs k t f ds (wipeR r1 vs) []).bind fun ys r2 => .ok (.list ys) (restR r1 r2 vs) := Eq.trans rfl rfl
@[simp] theorem v_yes : tYesR r = .ok true r := Eq.trans rfl rfl
@[simp] theorem v_wipe0 : wipeR r [] = r := Eq.trans rfl rfl
@[simp] theorem v_wipe (v : Nat) (vs : List Nat) : wipeR r (v :: vs) = (wipeR r vs).set v none := Eq.trans rfl rfl
@[simp] theorem v_rest0 (r0 : Rho) : restR r0 r [] = r := Eq.trans rfl rfl
@[simp] theorem v_rest (r0 : Rho) (v : Nat) (vs : List Nat) : restR r0 r (v :: vs) = (restR r0 r vs).set v ((r0[v]?).join) := Eq.trans rfl rfl
@[simp] theorem v_fn (F : FS) (as : List Arg) : eFn F as r = (argsR as r).bind fun os r1 => match gets r1 os with
  | some ds => match F ds with
    | .ok d ro => .ok d (putA as ro r1)
    | .exc c x ro => .exc c x (putA as ro r1)
    | .bad => .bad
  | none => .bad := Eq.trans rfl rfl
@[simp] theorem v_args0 : argsR [] = aNil := Eq.trans rfl rfl
@[simp] theorem v_argsE (as : List Arg) : argsR (.e f :: as) = aCons (oVal f) (argsR as) := Eq.trans rfl rfl
@[simp] theorem v_argsS (as : List Arg) : argsR (.s i :: as) = aCons (oSlot i) (argsR as) := Eq.trans rfl rfl
@[simp] theorem v_put0 (ro : Rho) : putA [] ro r = r := Eq.trans rfl rfl
@[simp] theorem v_putE (as : List Arg) (ro : Rho) : putA (.e f :: as) ro r = putA as ro.tail r := Eq.trans rfl rfl
@[simp] theorem v_putS (as : List Arg) (ro : Rho) : putA (.s i :: as) ro r = putA as ro.tail (r.set i (ro.head?.join)) := Eq.trans rfl rfl
@[simp] theorem v_ite_some {α : Type} {c : Prop} [Decidable c] (a : α) : R.ofO (if c then some a else none) r = if c then .ok a r else .bad := by
  split <;> rfl
/-! loops -/
@[simp] theorem f_nil (k : D → Rho → Option Rho) : forE k s [] r = .nx r := Eq.trans rfl rfl
theorem f_cons (k : D → Rho → Option Rho) (ds : List D) : forE k s (d :: ds) r = match k d r with
    | none => .bad
    | some r1 => match s r1 with
      | .nx r2 => forE k s ds r2
      | .ct r2 => forE k s ds r2
      | .bk r2 => .nx r2
      | .rt d r2 => .rt d r2
      | .exc c x r2 => .exc c x r2
      | .bad => .bad := rfl
@[simp] theorem c_nil (vs : List Nat) (k : D → Rho → Option Rho) (acc : List D) : compL vs k t f [] r acc = .ok acc r := Eq.trans rfl rfl
theorem c_cons (vs : List Nat) (k : D → Rho → Option Rho) (ds acc : List D) : compL vs k t f (d :: ds) r acc = match k d r with
    | none => .bad
    | some r1 => (t r1).noX.bind fun c r2 => if c = true then (f r2).noX.bind fun y r3 => if acc.length < sizeLine then compL vs k t f ds (wipeR r3 vs) (acc ++ [y]) else .bad else compL vs k t f ds (wipeR r2 vs) acc := Eq.trans rfl rfl
/-! body -/
theorem body_ok {pm : Ms} {n m : Nat} {s : Rho → SR} {ds : List D} {d : D} {r : Rho} (h : s (ds.map some ++ List.replicate m none) = .rt d r) : bodyF pm n m s ds = .ok d (outsR pm n r) := by
  show (match s (ds.map some ++ List.replicate m none) with
    | .rt d r => R.ok d (outsR pm n r)
    | .nx r => .ok .none (outsR pm n r)
    | .exc c x r => .exc c x (outsR pm n r)
    | _ => .bad) = _
  rw [h]
theorem body_exc {pm : Ms} {n m : Nat} {s : Rho → SR} {ds : List D} {c : Str} {x : D} {r : Rho} (h : s (ds.map some ++ List.replicate m none) = .exc c x r) : bodyF pm n m s ds = .exc c x (outsR pm n r) := by
  show (match s (ds.map some ++ List.replicate m none) with
    | .rt d r => R.ok d (outsR pm n r)
    | .nx r => .ok .none (outsR pm n r)
    | .exc c x r => .exc c x (outsR pm n r)
    | _ => .bad) = _
  rw [h]
theorem body_nx {pm : Ms} {n m : Nat} {s : Rho → SR} {ds : List D} {r : Rho} (h : s (ds.map some ++ List.replicate m none) = .nx r) : bodyF pm n m s ds = .ok .none (outsR pm n r) := by
  show (match s (ds.map some ++ List.replicate m none) with
    | .rt d r => R.ok d (outsR pm n r)
    | .nx r => .ok .none (outsR pm n r)
    | .exc c x r => .exc c x (outsR pm n r)
    | _ => .bad) = _
  rw [h]
/-! a loop, by an invariant: J says what holds before each turn -/
theorem forE_inv {k : D → Rho → Option Rho} {s : Rho → SR} (J : Rho → Prop) (P : D → Prop) (step : ∀ d r, P d → J r → ∃ r1, k d r = some r1 ∧ ∃ r2, (s r1 = .nx r2 ∨ s r1 = .ct r2) ∧ J r2) : ∀ ds r, (∀ d ∈ ds, P d) → J r → ∃ r', forE k s ds r = .nx r' ∧ J r'
  | [], r, _, j => ⟨r, rfl, j⟩
  | d :: ds, r, hp, j => by
    obtain ⟨r1, e1, r2, e2, j2⟩ := step d r (hp d (List.mem_cons_self ..)) j
    obtain ⟨r', e', j'⟩ := forE_inv J P step ds r2 (fun x hx => hp x (List.mem_cons_of_mem _ hx)) j2
    refine ⟨r', ?_, j'⟩
    rw [f_cons, e1]
    rcases e2 with e2 | e2 <;> (simp only [e2]; exact e')
/-- with a number of turns left -/
theorem forE_invN {k : D → Rho → Option Rho} {s : Rho → SR} (J : Nat → Rho → Prop) (P : D → Prop) (step : ∀ n d r, P d → J (n + 1) r → ∃ r1, k d r = some r1 ∧ ∃ r2, (s r1 = .nx r2 ∨ s r1 = .ct r2) ∧ J n r2) : ∀ ds r n, (∀ d ∈ ds, P d) → J (ds.length + n) r → ∃ r', forE k s ds r = .nx r' ∧ J n r'
  | [], r, n, _, j => ⟨r, rfl, by simpa using j⟩
  | d :: ds, r, n, hp, j => by
    obtain ⟨r1, e1, r2, e2, j2⟩ := step (ds.length + n) d r (hp d (List.mem_cons_self ..)) (by rw [List.length_cons, Nat.add_right_comm] at j; exact j)
    obtain ⟨r', e', j'⟩ := forE_invN J P step ds r2 n (fun x hx => hp x (List.mem_cons_of_mem _ hx)) j2
    refine ⟨r', ?_, j'⟩
    rw [f_cons, e1]
    rcases e2 with e2 | e2 <;> (simp only [e2]; exact e')
theorem compL_inv {vs : List Nat} {k : D → Rho → Option Rho} {t : Rho → R Bool} {f : Rho → R D} (J : Rho → Prop) (P Y : D → Prop) (step : ∀ d r, P d → J r → ∃ r1, k d r = some r1 ∧ ∃ r2, t r1 = .ok true r2 ∧ ∃ y r3, f r2 = .ok y r3 ∧ Y y ∧ J (wipeR r3 vs)) :
    ∀ ds r acc, (∀ d ∈ ds, P d) → J r → (∀ y ∈ acc, Y y) → acc.length + ds.length ≤ sizeLine → ∃ ys r', compL vs k t f ds r acc = .ok ys r' ∧ J r' ∧ (∀ y ∈ ys, Y y) ∧ ys.length = acc.length + ds.length
  | [], r, acc, _, j, ha, _ => ⟨acc, r, rfl, j, ha, rfl⟩
  | d :: ds, r, acc, hp, j, ha, hl => by
    obtain ⟨r1, e1, r2, e2, y, r3, e3, hy, j3⟩ := step d r (hp d (List.mem_cons_self ..)) j
    rw [List.length_cons] at hl
    obtain ⟨ys, r', e', j', hys, hlen⟩ := compL_inv J P Y step ds (wipeR r3 vs) (acc ++ [y]) (fun x hx => hp x (List.mem_cons_of_mem _ hx)) j3 (by
      intro z hz
      rcases List.mem_append.mp hz with hz | hz
      · exact ha z hz
      · rw [List.mem_singleton.mp hz]; exact hy) (by rw [List.length_append]; simp only [List.length_cons, List.length_nil]; omega)
    refine ⟨ys, r', ?_, j', hys, by rw [hlen, List.length_append]; simp only [List.length_cons, List.length_nil]; omega⟩
    rw [c_cons, e1]
    simp only [e2, noX_ok, bind_ok, if_true, e3]
    rw [if_pos (by omega)]
    exact e'
/-- a comprehension whose parts leave the names alone, is a map -/
theorem compL_map {vs : List Nat} {k : D → Rho → Option Rho} {t : Rho → R Bool} {f : Rho → R D} (m : D → D) (r : Rho) : ∀ (ds acc : List D), (∀ d ∈ ds, ∃ r1, k d r = some r1 ∧ t r1 = .ok true r1 ∧ f r1 = .ok (m d) r1 ∧ wipeR r1 vs = r) → acc.length + ds.length ≤ sizeLine → compL vs k t f ds r acc = .ok (acc ++ ds.map m) r
  | [], acc, _, _ => by simp
  | d :: ds, acc, hp, hl => by
    obtain ⟨r1, e1, e2, e3, e4⟩ := hp d (List.mem_cons_self ..)
    rw [List.length_cons] at hl
    rw [c_cons, e1]
    simp only [e2, noX_ok, bind_ok, if_true, e3]
    rw [if_pos (by omega), e4, compL_map m r ds (acc ++ [m d]) (fun x hx => hp x (List.mem_cons_of_mem _ hx)) (by rw [List.length_append]; simp only [List.length_cons, List.length_nil]; omega)]
    simp
theorem bools_map (p : D → Bool) : ∀ ds : List D, bools (ds.map fun d => .bool (p d)) = some (ds.map p)
  | [] => rfl
  | d :: ds => by
    show (bools (ds.map fun d => .bool (p d))).map (p d :: ·) = _
    rw [bools_map p ds] <;> rfl
theorem rngD_mem {lo : Int} {n : Nat} {d : D} (h : d ∈ rngD lo n) : ∃ i : Nat, i < n ∧ d = .int (lo + i) := by
  obtain ⟨i, hi, rfl⟩ := List.mem_map.mp h
  exact ⟨i, List.mem_range.mp hi, rfl⟩
theorem rngD_len (lo : Int) (n : Nat) : (rngD lo n).length = n := by simp [rngD]
theorem strIn_sgn (c : Nat) (z : Str) : strIn ⟨#[c]⟩ z = decide (c ∈ z.cps.toList) := (PySem.StrLaws.found_one z c).symm ▸ rfl
end DL
end

section
namespace DL
open PySem PySem.Spec PyProof.Rows L2 TL
/-! shared plain lemmas -/
theorem atI_int {α : Type} {xs : List α} {i : Int} (h0 : 0 ≤ i) (h : i < xs.length) : atI xs i = xs[i.toNat]? := by
  have e : i = ((i.toNat : Nat) : Int) := by omega
  have hl : i.toNat < xs.length := by omega
  have h1 : xs[i.toNat]? = some xs[i.toNat] := List.getElem?_eq_getElem hl
  rw [h1]
  conv => lhs; rw [e]
  exact atI_nat h1
/-- with a way out -/
theorem forE_invB {k : D → Rho → Option Rho} {s : Rho → SR} (J : Nat → Rho → Prop) (B : Rho → Prop) (P : D → Prop) (fin : ∀ r, J 0 r → B r)
    (step : ∀ n d r, P d → J (n + 1) r → ∃ r1, k d r = some r1 ∧ ∃ r2, ((s r1 = .nx r2 ∨ s r1 = .ct r2) ∧ J n r2) ∨ (s r1 = .bk r2 ∧ B r2)) : ∀ ds r, (∀ d ∈ ds, P d) → J ds.length r → ∃ r', forE k s ds r = .nx r' ∧ B r'
  | [], r, _, j => ⟨r, rfl, fin r j⟩
  | d :: ds, r, hp, j => by
    obtain ⟨r1, e1, r2, h⟩ := step ds.length d r (hp d (List.mem_cons_self ..)) j
    rcases h with ⟨e2, j2⟩ | ⟨e2, b⟩
    · obtain ⟨r', e', j'⟩ := forE_invB J B P fin step ds r2 (fun x hx => hp x (List.mem_cons_of_mem _ hx)) j2
      refine ⟨r', ?_, j'⟩
      rw [f_cons, e1]
      rcases e2 with e2 | e2 <;> (simp only [e2]; exact e')
    · refine ⟨r2, ?_, b⟩
      rw [f_cons, e1]
      simp only [e2]
def Good (ns : List Int) : Prop := ∀ x ∈ ns, 0 ≤ x ∧ x < 1000
abbrev ilD (ns : List Int) : D := .list (ns.map .int)
theorem good_app {a b : List Int} (ha : Good a) (hb : Good b) : Good (a ++ b) := fun x h => (List.mem_append.mp h).elim (ha x) (hb x)
theorem good_one {i : Int} (h0 : 0 ≤ i) (h1 : i < 1000) : Good [i] := fun x h => by rw [List.mem_singleton.mp h]; exact ⟨h0, h1⟩
theorem good_rev {a : List Int} (h : Good a) : Good a.reverse := fun x hx => h x (List.mem_reverse.mp hx)
theorem size_eq : sizeLine = 16777216 := by decide
theorem i64_a : i64 48271 = true := by decide
theorem i64_b : i64 69621 = true := by decide
theorem inR_60 : DL.inR 60 = true := by decide
theorem m_bd (j : Int) : 0 ≤ j % 1000 ∧ j % 1000 < 1000 := ⟨Int.emod_nonneg _ (by decide), Int.emod_lt_of_pos _ (by decide)⟩
theorem dGe_no {i j : Int} (h : ¬ j ≤ i) : dGe (.int i) (.int j) = some (.bool false) := by
  show some (PyData.bool (decide (j ≤ i))) = _
  rw [decide_eq_false h]
theorem dGe_yes {i j : Int} (h : j ≤ i) : dGe (.int i) (.int j) = some (.bool true) := by
  show some (PyData.bool (decide (j ≤ i))) = _
  rw [decide_eq_true h]
theorem dMod_ex (i j : Int) (h : 0 < j) : ∃ m, dMod (.int i) (.int j) = some (.int m) ∧ 0 ≤ m ∧ m < j := ⟨i % j, if_pos h, Int.emod_nonneg _ (by omega), Int.emod_lt_of_pos _ h⟩
theorem compL_mapG {ι : Type} {vs : List Nat} {k : D → Rho → Option Rho} {t : Rho → R Bool} {f : Rho → R D} (j m : ι → D) (r : Rho) : ∀ (ds : List ι) (acc : List D), (∀ d ∈ ds, ∃ r1, k (j d) r = some r1 ∧ t r1 = .ok true r1 ∧ f r1 = .ok (m d) r1 ∧ wipeR r1 vs = r) → acc.length + ds.length ≤ sizeLine → compL vs k t f (ds.map j) r acc = .ok (acc ++ ds.map m) r
  | [], acc, _, _ => by simp
  | d :: ds, acc, hp, hl => by
    obtain ⟨r1, e1, e2, e3, e4⟩ := hp d (List.mem_cons_self ..)
    rw [List.length_cons] at hl
    rw [List.map_cons, c_cons, e1]
    simp only [e2, noX_ok, bind_ok, if_true, e3]
    rw [if_pos (by omega), e4, compL_mapG j m r ds (acc ++ [m d]) (fun x hx => hp x (List.mem_cons_of_mem _ hx)) (by rw [List.length_append]; simp only [List.length_cons, List.length_nil]; omega)]
    simp
theorem bools_mapG {ι : Type} (p : ι → Bool) : ∀ ds : List ι, bools (ds.map fun d => .bool (p d)) = some (ds.map p)
  | [] => rfl
  | d :: ds => by
    show (bools (ds.map fun d => .bool (p d))).map (p d :: ·) = _
    rw [bools_mapG p ds] <;> rfl
theorem cAll_mapG {ι : Type} (p : ι → Bool) (ds : List ι) : cAll [.list (ds.map fun d => .bool (p d))] = some (.bool (ds.all p)) := by
  show (bools _).map _ = _
  rw [bools_mapG]
  simp [List.all_map]
theorem forE_nx {k : D → Rho → Option Rho} {s : Rho → SR} {d : D} {ds : List D} {r r1 r2 : Rho} (h : k d r = some r1) (e : s r1 = .nx r2) : forE k s (d :: ds) r = forE k s ds r2 := by
  rw [f_cons, h]; simp only [e]
theorem forE_rt {k : D → Rho → Option Rho} {s : Rho → SR} {d y : D} {ds : List D} {r r1 r2 : Rho} (h : k d r = some r1) (e : s r1 = .rt y r2) : forE k s (d :: ds) r = .rt y r2 := by
  rw [f_cons, h]; simp only [e]
abbrev lst (p : List Nat) : D := .str ⟨p.toArray⟩
theorem dEq_s (p : List Nat) (z : Str) : dEq (lst p) (.str z) = some (.bool (decide (p = tl z))) := by
  show some (PyData.bool (decide ((⟨p.toArray⟩ : Str) = z))) = _
  have e : ((⟨p.toArray⟩ : Str) = z) ↔ p = tl z := ⟨fun h => by rw [← h], fun h => ext_tl h⟩
  simp only [e]
theorem dAdd_s {a b : Str} (h : a.length + b.length ≤ sizeLine) : dAdd (.str a) (.str b) = some (.str (a ++ b)) := if_pos h
theorem app_l (p q : List Nat) : (⟨p.toArray⟩ : Str) ++ (⟨q.toArray⟩ : Str) = ⟨(p ++ q).toArray⟩ := ext_tl (by rw [tl_append])
theorem dLe_int (i j : Int) : dLe (.int i) (.int j) = some (.bool (decide (i ≤ j))) := rfl
theorem dLt_int (i j : Int) : dLt (.int i) (.int j) = some (.bool (decide (i < j))) := rfl
theorem cOrd_sgn (c : Nat) : cOrd [sgn c] = some (.int c) := rfl
theorem cRepr_ok {d : D} (h : (d.showable && !d.hasDict && decide (d.depth ≤ 60) && decide (d.shown.length ≤ sizeLine)) = true) : cRepr [d] = some (.str d.shown) := if_pos h
theorem dNe_same (z : Str) : dNe (.str z) (.str z) = some (.bool false) := by
  show some (PyData.bool (!decide (z = z))) = _
  rw [decide_eq_true rfl] <;> rfl
theorem inR_s {j : Int} (h0 : 0 ≤ j) (h1 : j ≤ 1000000) : DL.inR j = true := by
  simp only [DL.inR, Bool.and_eq_true, decide_eq_true_eq]
  omega
theorem joinL_flat : ∀ ls : List (List Nat), joinL [] ls = ls.flatten
  | [] => rfl
  | [p] => by simp [joinL]
  | p :: q :: r => by
    show p ++ ([] ++ joinL [] (q :: r)) = _
    rw [joinL_flat (q :: r)]
    simp
theorem flat_one : ∀ cs : List Nat, (cs.map fun c => [c]).flatten = cs
  | [] => rfl
  | c :: cs => by simp [flat_one cs]
theorem texts_sgn : ∀ cs : List Nat, texts (cs.map sgn) = some (cs.map fun c => (⟨#[c]⟩ : Str))
  | [] => rfl
  | c :: cs => by
    show (texts (cs.map sgn)).map (_ :: ·) = _
    rw [texts_sgn cs] <;> rfl
theorem join_sgn (cs : List Nat) : Txt.join "" (cs.map fun c => (⟨#[c]⟩ : Str)) = ⟨cs.toArray⟩ := by
  refine ext_tl ?_
  rw [join_eq, tl_join]
  show joinL [] _ = cs
  rw [joinL_flat, List.map_map]
  exact flat_one cs
theorem sum_one : ∀ cs : List Nat, ((cs.map fun c => (⟨#[c]⟩ : Str)).map (·.length)).sum = cs.length
  | [] => rfl
  | c :: cs => by
    rw [List.map_cons, List.map_cons, List.sum_cons, sum_one cs]
    show 1 + _ = _
    simp [Nat.add_comm]
theorem mJoin_sgn (cs : List Nat) (h : cs.length ≤ 1000) : mJoin (.str "") [.list (cs.map sgn)] = some (.str ⟨cs.toArray⟩) := by
  show ((texts (cs.map sgn)).bind fun ys => if (ys.map (·.length)).sum + ys.length * ("" : Str).length ≤ 16777216 then some (PyData.str (Txt.join "" ys)) else none) = _
  rw [texts_sgn]
  show (if _ then _ else _) = _
  rw [if_pos, join_sgn]
  rw [sum_one]
  have e : ("" : Str).length = 0 := rfl
  rw [e]
  omega
theorem all_sgn : ∀ ys : List D, (∀ y ∈ ys, ∃ c, y = sgn c ∧ c < 128) → ∃ cs : List Nat, ys = cs.map sgn ∧ ∀ c ∈ cs, c < 128
  | [], _ => ⟨[], rfl, fun _ h => by simp at h⟩
  | y :: ys, h => by
    obtain ⟨c, rfl, hc⟩ := h y (List.mem_cons_self ..)
    obtain ⟨cs, rfl, hs⟩ := all_sgn ys fun z hz => h z (List.mem_cons_of_mem _ hz)
    exact ⟨c :: cs, rfl, fun x hx => (List.mem_cons.mp hx).elim (fun e => e ▸ hc) (hs x)⟩
theorem ix_str {z : Str} {i : Int} (h0 : 0 ≤ i) (h : i < z.length) (hz : z.length ≤ 1000) : ∃ c, c ∈ tl z ∧ dIx (.str z) (.int i) = some (sgn c) := by
  have hl : i.toNat < (tl z).length := by rw [← len_tl]; omega
  refine ⟨(tl z)[i.toNat], List.getElem_mem hl, ?_⟩
  show (if z.length ≤ sizeLine then (atI z.cps.toList i).map fun c => PyData.str ⟨#[c]⟩ else none) = _
  rw [if_pos (by rw [size_eq]; omega), atI_int h0 (by rw [← len_tl]; exact h), List.getElem?_eq_getElem hl] <;> rfl
theorem dAdd_int (i j : Int) : dAdd (.int i) (.int j) = some (.int (i + j)) := rfl
theorem dLe_str (a b : List Nat) : dLe (lst a) (lst b) = some (.bool (!decide (b < a))) := rfl
theorem lt_one (a b : Nat) : decide ([a] < [b]) = decide (a < b) := by
  simp [List.cons_lt_cons_iff]
theorem cLen_l (p : List Nat) (h : p.length ≤ 1000000) : cLen [lst p] = some (.int p.length) := if_pos (by rw [sizeLine_eq]; show p.length ≤ _; omega)
theorem dInS_sgn (c : Nat) (z : Str) : dInS (sgn c) (.str z) = some (.bool (decide (c ∈ tl z))) := by
  show some (PyData.bool (strIn ⟨#[c]⟩ z)) = _
  rw [strIn_sgn]
theorem dAdd_sgn (w : List Nat) (c : Nat) (h : w.length < 1000) : dAdd (lst w) (sgn c) = some (lst (w ++ [c])) := by
  rw [show sgn c = .str (⟨[c].toArray⟩ : Str) from rfl, dAdd_s, app_l]
  show w.length + 1 ≤ _
  rw [size_eq]; omega
theorem dMul_str {x : Str} {n : Int} (h : (DL.inR n && (decide (n < 1) || decide (x.length * n.toNat ≤ sizeLine))) = true) : dMul (.str x) (.int n) = some (.str (strMul x n)) := by
  show (if _ then some _ else none) = _
  rw [if_pos h]
theorem dNe_l (a b : Str) (h : a = b) : dNe (.str a) (.str b) = some (.bool false) := by subst h; exact dNe_same a
theorem ix_list (ds : List D) (P : D → Prop) (h : ∀ d ∈ ds, P d) {i : Int} (h0 : 0 ≤ i) (h1 : i < ds.length) : ∃ d, dIx (.list ds) (.int i) = some d ∧ P d := by
  have hl : i.toNat < ds.length := by omega
  refine ⟨ds[i.toNat], ?_, h _ (List.getElem_mem hl)⟩
  show atI ds i = _
  rw [atI_int h0 h1, List.getElem?_eq_getElem hl]
theorem ix0 (a : Nat) (l : List Nat) (h : l.length < 900) : dIx (lst (a :: l)) (.int 0) = some (sgn a) := by
  show (if (a :: l).length ≤ sizeLine then (atI (a :: l) 0).map fun c => PyData.str ⟨#[c]⟩ else none) = _
  rw [if_pos (by rw [size_eq]; simp; omega), atI_int (by decide) (by rw [List.length_cons]; omega)] <;> rfl
theorem dEq_int (i j : Int) : dEq (.int i) (.int j) = some (.bool (decide (i = j))) := rfl
theorem bool_repr (b : Bool) : ∃ z, cRepr [.bool b] = some (.str z) := by
  cases b <;> exact ⟨_, cRepr_ok (by decide +kernel)⟩
end DL
end

section
namespace DL
open PySem PySem.Spec PyProof.Rows L2 TL
/-! evaluation of the newer words -/
section
variable (r : Rho) (f g k h : Rho → R D) (o p q : Rho → R Opd) (as : Rho → R (List Opd)) (t u : Rho → R Bool) (s s' : Rho → SR) (i : Nat) (d : D)
@[simp] theorem v_thw : sThw i s r = dropS i (s (r.set i none)) := Eq.trans rfl rfl
@[simp] theorem v_frz : sFrz i s r = dropS i (s r) := Eq.trans rfl rfl
@[simp] theorem drop_rt : dropS i (.rt d r) = .rt d (r.set i none) := Eq.trans rfl rfl
@[simp] theorem drop_nx : dropS i (.nx r) = .nx (r.set i none) := Eq.trans rfl rfl
@[simp] theorem drop_bk : dropS i (.bk r) = .bk (r.set i none) := Eq.trans rfl rfl
@[simp] theorem drop_ct : dropS i (.ct r) = .ct (r.set i none) := Eq.trans rfl rfl
@[simp] theorem drop_exc (c : Str) : dropS i (.exc c d r) = .exc c d (r.set i none) := Eq.trans rfl rfl
@[simp] theorem v_back : eBack o r = (o r).bind fun o r1 => .ofO ((o.get r1).bind dBack) r1 := Eq.trans rfl rfl
@[simp] theorem v_srtSet : eSrtSet f r = (f r).bind fun d r1 => match d with
  | .str z => if z.cps.size + 1 < scanBound then .ok (.list ((setSort z).map .str)) r1 else .bad
  | _ => .bad := Eq.trans rfl rfl
@[simp] theorem v_zip : iZip as r = (as r).bind fun os r1 => match vals os with
  | some [a, b] => match itemsD a, itemsD b with
    | some xs, some ys => .ok (zipD xs ys) r1
    | _, _ => .bad
  | _ => .bad := Eq.trans rfl rfl
@[simp] theorem v_enum : DL.iEnum as r = (as r).bind fun os r1 => match vals os with
  | some [a] => match itemsD a with
    | some xs => .ok (enumD xs) r1
    | none => .bad
  | _ => .bad := Eq.trans rfl rfl
@[simp] theorem v_comp2 (vs vs1 : List Nat) (i i1 : Rho → R (List D)) (k k1 : D → Rho → Option Rho) : eComp2 vs vs1 i k t i1 k1 u f r = (i r).bind fun ds r1 => (compO vs vs1 k t i1 k1 u f ds r1 []).bind fun ys r2 => .ok (.list ys) (restR r1 (wipeR r2 vs) vs) := Eq.trans rfl rfl
@[simp] theorem v_setIx : sSetIx i f g r = (f r).toS fun d r1 => match (r1[i]?).join with
  | some (.list _) => (g r1).toS fun kd r2 => putIx i kd d r2
  | _ => .bad := Eq.trans rfl rfl
@[simp] theorem v_augIx (sem : D → D → Option D) : sAugIx i sem f o r = match (r[i]?).join with
  | some (.list _) => (f r).toS fun kd r1 => match kd, (r1[i]?).join with
    | .int k, some (.list cs) => match atI cs k with
      | some x => (o r1).toS fun o r2 => match (o.get r2).bind fun y => sem x y with
        | some z => putIx i (.int k) z r2
        | none => .bad
      | none => .bad
    | _, _ => .bad
  | _ => .bad := Eq.trans rfl rfl
@[simp] theorem items_l (ds : List D) : itemsD (.list ds) = some ds := Eq.trans rfl rfl
@[simp] theorem items_t (ds : List D) : itemsD (.tuple ds) = some ds := Eq.trans rfl rfl
@[simp] theorem items_s (z : Str) : itemsD (.str z) = some (z.cps.toList.map sgn) := Eq.trans rfl rfl
@[simp] theorem back_t (ds : List D) : dBack (.tuple ds) = some (.tuple ds.reverse) := Eq.trans rfl rfl
@[simp] theorem back_l (ds : List D) : dBack (.list ds) = some (.list ds.reverse) := Eq.trans rfl rfl
theorem back_s (l : List Nat) (h : l.length ≤ sizeLine) : dBack (lst l) = some (lst l.reverse) := if_pos h
theorem enumD_eq (ds : List D) : enumD ds = ds.mapIdx fun i d => .tuple [.int (i : Nat), d] := rfl
theorem c2_nil (vs vs1 : List Nat) (i1 : Rho → R (List D)) (k k1 : D → Rho → Option Rho) (acc : List D) : compO vs vs1 k t i1 k1 u f [] r acc = .ok acc r := rfl
theorem c2_cons (vs vs1 : List Nat) (i1 : Rho → R (List D)) (k k1 : D → Rho → Option Rho) (ds acc : List D) : compO vs vs1 k t i1 k1 u f (d :: ds) r acc = match k d (wipeR r vs) with
    | none => .bad
    | some r1 => (t r1).noX.bind fun c r2 => if c = true then (i1 r2).noX.bind fun ds1 r3 => (compI vs1 k1 u f ds1 r3 acc).bind fun acc1 r4 => compO vs vs1 k t i1 k1 u f ds r4 acc1 else compO vs vs1 k t i1 k1 u f ds r2 acc := rfl
end
/-! data that are fine: small, and equal exactly where they are the same -/
mutual
def nobool : D → Bool
  | .bool _ => false
  | .dict _ => false
  | .none => true
  | .int _ => true
  | .str _ => true
  | .list xs => noboolA xs
  | .tuple xs => noboolA xs
def noboolA : List D → Bool
  | [] => true
  | x :: xs => nobool x && noboolA xs
end
mutual
theorem eqv_iff : ∀ {x y : D}, nobool x = true → nobool y = true → (PyData.eqv x y = true ↔ x = y)
  | .none, y, _, hy => by cases y <;> simp_all [PyData.eqv, nobool]
  | .int i, y, _, hy => by cases y <;> simp_all [PyData.eqv, nobool]
  | .str i, y, _, hy => by cases y <;> simp_all [PyData.eqv, nobool]
  | .bool i, _, h, _ => by cases h
  | .dict i, _, h, _ => by cases h
  | .list xs, y, h, hy => by
    cases y with
    | list ys =>
      unfold nobool at h hy
      rw [PyData.eqv, eqvA_iff h hy]
      exact ⟨fun e => by rw [e], fun e => by cases e; rfl⟩
    | _ => simp_all [PyData.eqv, nobool]
  | .tuple xs, y, h, hy => by
    cases y with
    | tuple ys =>
      unfold nobool at h hy
      rw [PyData.eqv, eqvA_iff h hy]
      exact ⟨fun e => by rw [e], fun e => by cases e; rfl⟩
    | _ => simp_all [PyData.eqv, nobool]
theorem eqvA_iff : ∀ {xs ys : List D}, noboolA xs = true → noboolA ys = true → (PyData.eqvAll xs ys = true ↔ xs = ys)
  | [], [], _, _ => by simp [PyData.eqvAll]
  | [], _ :: _, _, _ => by simp [PyData.eqvAll]
  | _ :: _, [], _, _ => by simp [PyData.eqvAll]
  | x :: xs, y :: ys, h, hy => by
    unfold noboolA at h hy
    obtain ⟨h1, h2⟩ := Bool.and_eq_true_iff.mp h
    obtain ⟨g1, g2⟩ := Bool.and_eq_true_iff.mp hy
    rw [PyData.eqvAll, Bool.and_eq_true, eqv_iff h1 g1, eqvA_iff h2 g2]
    exact ⟨fun ⟨a, b⟩ => by rw [a, b], fun e => by cases e; exact ⟨rfl, rfl⟩⟩
end
/-- depth at most n, weight at most w -/
structure Fine (n w : Nat) (d : D) : Prop where
  lay : d.canLay0 = true
  dep : d.depth ≤ n
  wt : d.weight ≤ w
  ints_ : d.intsShort 13 = true
  sh : d.showable = true
structure FineA (n w : Nat) (d : List D) : Prop where
  lay : PyData.canLayAll0 d = true
  dep : PyData.depthAll d ≤ n
  wt : PyData.weightAll d ≤ d.length * (w + 1)
  ints_ : PyData.intsShortAll 13 d = true
  sh : PyData.showableAll d = true
theorem fineA {n w : Nat} : ∀ {ds : List D}, (∀ d ∈ ds, Fine n w d) → FineA n w ds
  | [], _ => ⟨rfl, Nat.zero_le _, by simp [PyData.weightAll], rfl, rfl⟩
  | d :: ds, h => by
    have a := h d List.mem_cons_self
    have b := fineA fun x hx => h x (List.mem_cons_of_mem _ hx)
    refine ⟨?_, ?_, ?_, ?_, ?_⟩
    · unfold PyData.canLayAll0; rw [a.lay, b.lay]; rfl
    · unfold PyData.depthAll; exact Nat.max_le.mpr ⟨a.dep, b.dep⟩
    · unfold PyData.weightAll; rw [List.length_cons, Nat.add_mul]; have := a.wt; have := b.wt; omega
    · unfold PyData.intsShortAll; rw [a.ints_, b.ints_]; rfl
    · unfold PyData.showableAll; rw [a.sh, b.sh]; rfl
theorem Fine.mono {n w n' w' : Nat} {d : D} (h : Fine n w d) (hn : n ≤ n') (hw : w ≤ w') : Fine n' w' d := ⟨h.lay, Nat.le_trans h.dep hn, Nat.le_trans h.wt hw, h.ints_, h.sh⟩
theorem fine_list {n w : Nat} {ds : List D} (h : ∀ d ∈ ds, Fine n w d) : Fine (n + 1) (ds.length * (w + 1)) (.list ds) := by
  have a := fineA h
  exact ⟨by unfold PyData.canLay0; exact a.lay, by unfold PyData.depth; exact Nat.succ_le_succ a.dep, by unfold PyData.weight; exact a.wt, by unfold PyData.intsShort; exact a.ints_, by unfold PyData.showable; exact a.sh⟩
theorem fine_tuple {n w : Nat} {ds : List D} (h : ∀ d ∈ ds, Fine n w d) : Fine (n + 1) (ds.length * (w + 1)) (.tuple ds) := by
  have a := fineA h
  exact ⟨by unfold PyData.canLay0; exact a.lay, by unfold PyData.depth; exact Nat.succ_le_succ a.dep, by unfold PyData.weight; exact a.wt, by unfold PyData.intsShort; exact a.ints_, by unfold PyData.showable; exact a.sh⟩
theorem fine_bool (b : Bool) : Fine 0 0 (.bool b) := ⟨rfl, Nat.le_refl _, Nat.le_refl _, rfl, rfl⟩
theorem fine_none : Fine 0 0 .none := ⟨rfl, Nat.le_refl _, Nat.le_refl _, rfl, rfl⟩
theorem fine_lst {l : List Nat} (h : ∀ c ∈ l, c < 128) : Fine 0 l.length (lst l) := by
  refine ⟨?_, Nat.le_refl _, Nat.le_of_eq rfl, rfl, rfl⟩
  show l.toArray.all (fun c => decide (c < 0x110000)) = true
  rw [List.all_toArray]
  refine List.all_eq_true.mpr fun c hc => decide_eq_true ?_
  have := h c hc
  omega
theorem fine_int {i : Int} (h : i.natAbs < 10 ^ 12) : Fine 0 50 (.int i) := by
  have e : ∀ n : Nat, n < 10 ^ 12 → n.log2 < 41 := fun n hn => by
    by_cases z : n = 0
    · subst z; decide
    · exact (Nat.log2_lt z).mpr (Nat.lt_trans hn (by decide))
  have hl := e _ h
  refine ⟨rfl, Nat.le_refl _, ?_, ?_, ?_⟩
  · unfold PyData.weight
    split
    · omega
    · omega
  · unfold PyData.intsShort
    refine decide_eq_true ?_
    have := int_text_length_le10 (a := i) (k := 12) (by decide) h
    unfold PyData.shown
    show (Str.ofString (toString i)).length ≤ 13
    rw [PySem.ofString_length]
    omega
  · unfold PyData.showable
    exact decide_eq_true (by omega)
theorem fine_shaped {n w : Nat} {d : D} (h : Fine n w d) (hn : n ≤ 60) : SeqAt.shaped d = true := by
  unfold SeqAt.shaped
  rw [h.lay, decide_eq_true (by have := h.dep; omega)]
  rfl
theorem fine_repr {n w : Nat} {d : D} (h : Fine n w d) (hn : n ≤ 60) (hw : w ≤ 1000000) : cRepr [d] = some (.str d.shown) := by
  refine cRepr_ok ?_
  have h1 := h.dep
  have h2 := h.wt
  have e : (2 : Nat) ^ 20 = 1048576 := by decide
  have la : d.layable0 = true := by
    unfold PyData.layable0
    rw [h.lay, decide_eq_true (by omega), decide_eq_true (by omega)]
    rfl
  rw [h.sh, PyData.hasDict_of_canLay d h.lay, decide_eq_true (by omega), decide_eq_true (PyData.shown_fits_of_layable0 (by decide) (by decide) la h.ints_)]
  rfl
/-- == on fine data without truth values -/
theorem dEq_fine {n w : Nat} {x y : D} (hx : Fine n w x) (hy : Fine n w y) (hn : n ≤ 60) (bx : nobool x = true) (by_ : nobool y = true) : ∃ b, dEq x y = some (.bool b) ∧ (b = true ↔ x = y) := by
  have sx := fine_shaped hx hn
  have sy := fine_shaped hy hn
  have key : (if (SeqAt.shaped x && SeqAt.shaped y) = true then some (PyData.eqv x y) else none) = some (PyData.eqv x y) := by rw [sx, sy]; rfl
  cases x with
  | none => cases y with
    | none => exact ⟨true, rfl, by simp⟩
    | int j => exact ⟨false, rfl, by simp⟩
    | str j => exact ⟨false, rfl, by simp⟩
    | _ => exact ⟨PyData.eqv _ _, by unfold dEq dEqv; simp only [key]; rfl, eqv_iff bx by_⟩
  | int i => cases y with
    | none => exact ⟨false, rfl, by simp⟩
    | int j => exact ⟨decide (i = j), rfl, by simp⟩
    | str j => exact ⟨false, rfl, by simp⟩
    | _ => exact ⟨PyData.eqv _ _, by unfold dEq dEqv; simp only [key]; rfl, eqv_iff bx by_⟩
  | str i => cases y with
    | none => exact ⟨false, rfl, by simp⟩
    | int j => exact ⟨false, rfl, by simp⟩
    | str j => exact ⟨decide (i = j), rfl, by simp⟩
    | _ => exact ⟨PyData.eqv _ _, by unfold dEq dEqv; simp only [key]; rfl, eqv_iff bx by_⟩
  | bool b => cases bx
  | dict b => cases bx
  | list xs => exact ⟨PyData.eqv (.list xs) y, by unfold dEq dEqv; simp only [key]; rfl, eqv_iff bx by_⟩
  | tuple xs => exact ⟨PyData.eqv (.tuple xs) y, by unfold dEq dEqv; simp only [key]; rfl, eqv_iff bx by_⟩
theorem dNe_of {x y : D} {b : Bool} (h : dEq x y = some (.bool b)) : dNe x y = some (.bool !b) := by
  unfold dEq at h
  unfold dNe
  cases e : dEqv x y with
  | none => rw [e] at h; cases h
  | some c => rw [e] at h; cases h; rfl
end DL
end

section
namespace DL
open PySem PySem.Spec PyProof.Rows L2 TL
/-! plain lemmas on signs, slices, letters -/
abbrev ltr (k : Int) (c : Nat) : Bool := decide (97 ≤ c) && decide ((c : Int) < 97 + k)
theorem dIn_sgn (c : Nat) (z : Str) : dIn (sgn c) (.str z) = some (.bool (decide (c ∈ tl z))) := by
  show some (PyData.bool (strIn ⟨#[c]⟩ z)) = _
  rw [strIn_sgn]
theorem dNotIn_sgn (c : Nat) (z : Str) : dNotIn (sgn c) (.str z) = some (.bool (!decide (c ∈ tl z))) := by
  show some (PyData.bool (!strIn ⟨#[c]⟩ z)) = _
  rw [strIn_sgn]
theorem dSl_str {z : Str} {lo hi : Option Int} (h : z.length ≤ sizeLine) : dSl (.str z) lo hi = some (.str (cutS z lo hi)) := if_pos h
theorem mIndexS_of {a b : Str} {i : Nat} {rest : List Nat} (h : Builtin.Str.occurrences a b 0 a.length 1 = i :: rest) : mIndexS (.str a) [.str b] = some (.int (i : Nat)) := by
  unfold mIndexS
  simp only [h]
theorem ix_ab (c : Nat) (h : 97 ≤ c) (h' : c < 103) : mIndexS (.str "abcdef") [sgn c] = some (.int ((c - 97 : Nat) : Int)) := by
  have hc : c = 97 ∨ c = 98 ∨ c = 99 ∨ c = 100 ∨ c = 101 ∨ c = 102 := by omega
  rcases hc with rfl | rfl | rfl | rfl | rfl | rfl <;> exact mIndexS_of (rest := []) (by decide +kernel)
theorem ix_t1 (a b : D) (l : List D) : dIx (.tuple (a :: b :: l)) (.int 1) = some b := by
  show atI (a :: b :: l) 1 = _
  rw [atI_int (by decide) (by simp only [List.length_cons]; omega)]; rfl
theorem ix_t0 (a : D) (l : List D) : dIx (.tuple (a :: l)) (.int 0) = some a := by
  show atI (a :: l) 0 = _
  rw [atI_int (by decide) (by simp only [List.length_cons]; omega)]; rfl
theorem ix_t (ds : List D) {i : Int} (h0 : 0 ≤ i) (h1 : i < ds.length) : dIx (.tuple ds) (.int i) = ds[i.toNat]? := atI_int h0 h1
theorem ix_li (ds : List D) {i : Int} (h0 : 0 ≤ i) (h1 : i < ds.length) : dIx (.list ds) (.int i) = ds[i.toNat]? := atI_int h0 h1
theorem ix_s (l : List Nat) {i : Int} (h0 : 0 ≤ i) (h1 : i < l.length) (hl : l.length ≤ sizeLine) : dIx (lst l) (.int i) = (l[i.toNat]?).map sgn := by
  show (if l.length ≤ sizeLine then (atI l i).map fun c => PyData.str ⟨#[c]⟩ else none) = _
  rw [if_pos hl, atI_int h0 h1]; rfl
theorem atI_last {α : Type} (l : List α) (a : α) : atI (l ++ [a]) (-1) = some a := by
  have e : ixN (l ++ [a]).length (-1) = some l.length := by
    unfold ixN
    rw [if_neg (by omega), List.length_append, List.length_singleton, if_pos (by omega)]
    congr 1
    omega
  unfold atI
  rw [e]
  show (l ++ [a])[l.length]? = some a
  simp
theorem ix_last (l : List D) (a : D) : dIx (.list (l ++ [a])) (.int (-1)) = some a := atI_last l a
theorem ix_lastT (l : List D) (a : D) : dIx (.tuple (l ++ [a])) (.int (-1)) = some a := atI_last l a
theorem cl6 : cLen [.str "abcdef"] = some (.int 6) := by rfl
theorem dNe_int (i j : Int) : dNe (.int i) (.int j) = some (.bool (!decide (i = j))) := rfl
theorem dGt_int (i j : Int) : dGt (.int i) (.int j) = some (.bool (decide (j < i))) := rfl
theorem dGe_int (i j : Int) : dGe (.int i) (.int j) = some (.bool (decide (j ≤ i))) := rfl
theorem dSub_int (i j : Int) : dSub (.int i) (.int j) = some (.int (i - j)) := rfl
theorem cLen_t (ds : List D) : cLen [.tuple ds] = some (.int ds.length) := rfl
theorem cLen_li (ds : List D) : cLen [.list ds] = some (.int ds.length) := rfl
theorem cTuple_l (ds : List D) : cTuple [.list ds] = some (.tuple ds) := rfl
theorem cList_t (ds : List D) : cListA [.tuple ds] = some ds := rfl
theorem cList_l (ds : List D) : cListA [.list ds] = some ds := rfl
theorem cList_s (l : List Nat) (h : l.length ≤ sizeLine) : cListA [lst l] = some (l.map sgn) := if_pos h
theorem dEq_l (p q : List Nat) : dEq (lst p) (lst q) = some (.bool (decide (p = q))) := dEq_s p _
theorem dNe_ll (p q : List Nat) : dNe (lst p) (lst q) = some (.bool (!decide (p = q))) := dNe_of (dEq_l p q)
theorem tru_s (l : List Nat) (h : l.length ≤ sizeLine) : tru (lst l) = some (!l.isEmpty) := by
  show (if l.length ≤ sizeLine then some ((l.length : Int) != 0) else none) = _
  rw [if_pos h]
  cases l with
  | nil => rfl
  | cons a t =>
    have : (((a :: t).length : Int) != 0) = true := bne_iff_ne.mpr (by rw [List.length_cons]; omega)
    rw [this]; rfl
theorem all_sgnP (P : Nat → Prop) : ∀ ys : List D, (∀ y ∈ ys, ∃ c, y = sgn c ∧ P c) → ∃ cs : List Nat, ys = cs.map sgn ∧ ∀ c ∈ cs, P c
  | [], _ => ⟨[], rfl, fun _ h => by simp at h⟩
  | y :: ys, h => by
    obtain ⟨c, rfl, hc⟩ := h y (List.mem_cons_self ..)
    obtain ⟨cs, rfl, hs⟩ := all_sgnP P ys fun z hz => h z (List.mem_cons_of_mem _ hz)
    exact ⟨c :: cs, rfl, fun x hx => (List.mem_cons.mp hx).elim (fun e => e ▸ hc) (hs x)⟩
theorem all_of {ι : Type} (j : ι → D) (P : ι → Prop) : ∀ ys : List D, (∀ y ∈ ys, ∃ c, y = j c ∧ P c) → ∃ cs : List ι, ys = cs.map j ∧ ∀ c ∈ cs, P c
  | [], _ => ⟨[], rfl, fun _ h => by simp at h⟩
  | y :: ys, h => by
    obtain ⟨c, rfl, hc⟩ := h y (List.mem_cons_self ..)
    obtain ⟨cs, rfl, hs⟩ := all_of j P ys fun z hz => h z (List.mem_cons_of_mem _ hz)
    exact ⟨c :: cs, rfl, fun x hx => (List.mem_cons.mp hx).elim (fun e => e ▸ hc) (hs x)⟩
/-- the letters that a number allows: of any number -/
def lts (k : Int) (c : Nat) : Bool := decide (c ∈ tl (cutS "abcdef" none (some k)))
theorem sl_ab (k : Int) : dSl (.str "abcdef") none (some k) = some (.str (cutS "abcdef" none (some k))) := dSl_str (by rw [size_eq]; decide)
theorem cut_k {k : Int} (hk : 2 ≤ k) (hk' : k ≤ 6) : tl (cutS "abcdef" none (some k)) = (List.range k.toNat).map (97 + ·) := by
  have hkk : k = 2 ∨ k = 3 ∨ k = 4 ∨ k = 5 ∨ k = 6 := by omega
  rcases hkk with rfl | rfl | rfl | rfl | rfl <;> decide +kernel
theorem lts_eq {k : Int} (hk : 2 ≤ k) (hk' : k ≤ 6) (c : Nat) : lts k c = ltr k c := by
  unfold lts ltr
  rw [cut_k hk hk', ← Bool.decide_and]
  refine decide_eq_decide.mpr ?_
  rw [List.mem_map]
  constructor
  · rintro ⟨i, hi, rfl⟩
    have := List.mem_range.mp hi
    omega
  · rintro ⟨h1, h2⟩
    exact ⟨c - 97, List.mem_range.mpr (by omega), by omega⟩
/-! sorted(set(text)) -/
def sing (c : Nat) : Str := ⟨#[c]⟩
theorem sing_inj {a b : Nat} (h : sing a = sing b) : a = b := by
  have e := congrArg (fun x : Str => x.cps.toList) h
  exact (List.cons.inj e).1
theorem leS_sing (a b : Nat) : leS (sing a) (sing b) = decide (a ≤ b) := by
  unfold leS sing
  refine decide_eq_decide.mpr ?_
  show ([a] ≤ [b]) ↔ _
  rw [← List.not_lt]
  have e := lt_one b a
  have : ([b] < [a]) ↔ b < a := by
    have := decide_eq_decide.mp e
    exact this
  rw [this]
  omega
theorem nodup_sing {p : List Nat} : (p.map sing).Nodup ↔ p.Nodup := by
  constructor
  · intro h
    exact List.Pairwise.of_map sing (fun a b hab e => hab (congrArg sing e)) h
  · intro h
    exact List.Pairwise.map sing (fun a b hab e => hab (sing_inj e)) h
theorem setSort_iff (p : List Nat) : p.map sing = setSort ⟨p.toArray⟩ ↔ p.Pairwise (· < ·) := by
  have hp : (⟨p.toArray⟩ : Str).cps.toList = p := rfl
  have nd : (insAll [] p).Nodup := insAll_nd p List.nodup_nil
  have mm : ∀ x, x ∈ insAll [] p ↔ x ∈ p.map sing := fun x => by
    rw [mem_insAll, List.mem_map]
    constructor
    · rintro (h | ⟨c, hc, rfl⟩)
      · cases h
      · exact ⟨c, hc, rfl⟩
    · rintro ⟨c, hc, rfl⟩
      exact .inr ⟨c, hc, rfl⟩
  unfold setSort sortStr
  rw [hp]
  have pm := List.mergeSort_perm (insAll [] p) leS
  have ps := List.pairwise_mergeSort leS_trans leS_total (insAll [] p)
  constructor
  · intro h
    rw [← h] at pm ps
    have n2 : (p.map sing).Nodup := pm.nodup_iff.mpr nd
    have n1 := nodup_sing.mp n2
    have le : p.Pairwise (· ≤ ·) := (List.pairwise_map.mp ps).imp fun q => by rw [leS_sing] at q; exact of_decide_eq_true q
    exact (List.Pairwise.and le n1).imp fun ⟨a, b⟩ => by have : _ ≠ _ := b; omega
  · intro h
    have n1 : p.Nodup := h.imp fun q => Nat.ne_of_lt q
    have pp : (p.map sing).Perm (insAll [] p) := (List.perm_ext_iff_of_nodup (nodup_sing.mpr n1) nd).mpr fun x => (mm x).symm
    refine List.Perm.eq_of_pairwise (le := fun a b => leS a b = true) (fun _ _ _ _ => leS_anti) ?_ ps (pp.trans pm.symm)
    exact List.pairwise_map.mpr (h.imp fun q => by rw [leS_sing]; exact decide_eq_true (Nat.le_of_lt q))
theorem setSort_cps (p : List Nat) : ∃ q : List Nat, setSort ⟨p.toArray⟩ = q.map sing ∧ (∀ c, c ∈ q ↔ c ∈ p) ∧ q.length ≤ p.length := by
  have hp : (⟨p.toArray⟩ : Str).cps.toList = p := rfl
  have pm := List.mergeSort_perm (insAll [] p) leS
  have mm : ∀ x, x ∈ setSort ⟨p.toArray⟩ ↔ x ∈ p.map sing := fun x => by
    unfold setSort sortStr
    rw [hp, pm.mem_iff, mem_insAll, List.mem_map]
    constructor
    · rintro (h | ⟨c, hc, rfl⟩)
      · cases h
      · exact ⟨c, hc, rfl⟩
    · rintro ⟨c, hc, rfl⟩
      exact .inr ⟨c, hc, rfl⟩
  have go : ∀ l : List Str, (∀ x ∈ l, ∃ c, x = sing c) → ∃ q : List Nat, l = q.map sing := by
    intro l
    induction l with
    | nil => exact fun _ => ⟨[], rfl⟩
    | cons x l ih =>
      intro h
      obtain ⟨c, rfl⟩ := h x List.mem_cons_self
      obtain ⟨q, rfl⟩ := ih fun y hy => h y (List.mem_cons_of_mem _ hy)
      exact ⟨c :: q, rfl⟩
  obtain ⟨q, e⟩ := go (setSort ⟨p.toArray⟩) fun x hx => by
    obtain ⟨c, _, rfl⟩ := List.mem_map.mp ((mm x).mp hx)
    exact ⟨c, rfl⟩
  refine ⟨q, e, fun c => ?_, ?_⟩
  · rw [e] at mm
    have := mm (sing c)
    rw [List.mem_map, List.mem_map] at this
    constructor
    · intro h
      obtain ⟨d, hd, ed⟩ := this.mp ⟨c, h, rfl⟩
      rw [← sing_inj ed]; exact hd
    · intro h
      obtain ⟨d, hd, ed⟩ := this.mpr ⟨c, h, rfl⟩
      rw [← sing_inj ed]; exact hd
  · have hl : (setSort ⟨p.toArray⟩).length ≤ p.length := by
      unfold setSort sortStr
      rw [hp, pm.length_eq]
      have := insAll_len p []
      simpa using this
    rw [e, List.length_map] at hl
    exact hl
theorem sgn_sing (l : List Nat) : (l.map sing).map PyData.str = l.map sgn := by rw [List.map_map]; rfl
theorem fine_sgns {l : List Nat} (h : ∀ c ∈ l, c < 128) (n : Nat) (hn : l.length ≤ n) : Fine 1 (n * 2) (.list (l.map sgn)) := by
  have := fine_list (n := 0) (w := 1) (ds := l.map sgn) fun d hd => by
    obtain ⟨c, hc, rfl⟩ := List.mem_map.mp hd
    exact fine_lst (l := [c]) fun x hx => by rw [List.mem_singleton.mp hx]; exact h c hc
  refine this.mono (Nat.le_refl _) ?_
  rw [List.length_map]
  omega
theorem nobool_map {ι : Type} (j : ι → D) (h : ∀ x, nobool (j x) = true) : ∀ l : List ι, noboolA (l.map j) = true
  | [] => rfl
  | x :: l => by unfold List.map noboolA; rw [h x, nobool_map j h l]; rfl
theorem sgn_inj {a b : Nat} (h : sgn a = sgn b) : a = b := by
  injection h with h
  exact sing_inj h
theorem map_inj {α β : Type} {f : α → β} (hf : ∀ a b, f a = f b → a = b) : ∀ {l m : List α}, l.map f = m.map f → l = m
  | [], [], _ => rfl
  | [], _ :: _, h => by cases h
  | _ :: _, [], h => by cases h
  | a :: l, b :: m, h => by
    rw [List.map_cons, List.map_cons] at h
    obtain ⟨h1, h2⟩ := List.cons.inj h
    rw [hf _ _ h1, map_inj hf h2]
theorem lst_inj {a b : List Nat} (h : lst a = lst b) : a = b := by
  injection h with h
  exact congrArg (fun x : Str => x.cps.toList) h
/-- list(p) == sorted(set(p)) -/
theorem eq_sorted (p : List Nat) (hp : ∀ c ∈ p, c < 128) (hl : p.length ≤ 1000) : dEq (.list (p.map sgn)) (.list ((setSort ⟨p.toArray⟩).map .str)) = some (.bool (decide (p.Pairwise (· < ·)))) := by
  obtain ⟨q, eq, mq, lq⟩ := setSort_cps p
  have e1 := fine_sgns hp 1000 hl
  have e2 := fine_sgns (l := q) (fun c hc => hp c ((mq c).mp hc)) 1000 (by omega)
  have i := setSort_iff p
  rw [eq] at i ⊢
  rw [sgn_sing]
  obtain ⟨b, hb, hi⟩ := dEq_fine e1 e2 (by decide) (nobool_map sgn (fun _ => rfl) p) (nobool_map sgn (fun _ => rfl) q)
  rw [hb]
  have : b = decide (p.Pairwise (· < ·)) := by
    refine Bool.eq_iff_iff.mpr ?_
    rw [hi, decide_eq_true_eq, ← i]
    constructor
    · intro h
      injection h with h
      have := map_inj (fun a b => sgn_inj) h
      rw [this]
    · intro h
      have := map_inj (fun a b => sing_inj) h
      rw [this]
  rw [this]
end DL
end

section
namespace DL
open PySem PySem.Spec PyProof.Rows L2 TL
/-! loops and comprehensions as plain functions -/
theorem compL_filterG {ι : Type} {vs : List Nat} {k : D → Rho → Option Rho} {t : Rho → R Bool} {f : Rho → R D} (j m : ι → D) (p : ι → Bool) (r : Rho) : ∀ (ds : List ι) (acc : List D), (∀ d ∈ ds, ∃ r1, k (j d) r = some r1 ∧ t r1 = .ok (p d) r1 ∧ (p d = true → f r1 = .ok (m d) r1) ∧ wipeR r1 vs = r) → acc.length + ds.length ≤ sizeLine →
    compL vs k t f (ds.map j) r acc = .ok (acc ++ (ds.filter p).map m) r
  | [], acc, _, _ => by simp
  | d :: ds, acc, hp, hl => by
    obtain ⟨r1, e1, e2, e3, e4⟩ := hp d (List.mem_cons_self ..)
    rw [List.length_cons] at hl
    rw [List.map_cons, c_cons, e1]
    cases h : p d with
    | true =>
      rw [h] at e2
      simp only [e2, noX_ok, bind_ok, if_true, e3 h]
      rw [if_pos (by omega), e4, compL_filterG j m p r ds (acc ++ [m d]) (fun x hx => hp x (List.mem_cons_of_mem _ hx)) (by rw [List.length_append]; simp only [List.length_cons, List.length_nil]; omega)]
      rw [List.filter_cons_of_pos h]
      simp
    | false =>
      rw [h] at e2
      simp only [e2, noX_ok, bind_ok]
      rw [if_neg (by decide), e4, compL_filterG j m p r ds acc (fun x hx => hp x (List.mem_cons_of_mem _ hx)) (by omega)]
      rw [List.filter_cons_of_neg (by rw [h]; decide)]
theorem rng_nat (n : Nat) : rngD 0 n = (List.range n).map fun i : Nat => PyData.int (i : Int) := by
  unfold rngD
  refine List.map_congr_left fun i _ => ?_
  rw [Int.zero_add]
theorem rng_lo (lo : Int) (n : Nat) : rngD lo n = (List.range n).map fun i : Nat => PyData.int (lo + (i : Int)) := rfl
theorem inR_n (n : Nat) (h : n ≤ 1000000000) : DL.inR (n : Int) = true := by
  simp only [DL.inR, Bool.and_eq_true, decide_eq_true_eq]
  omega
theorem inR_i (n : Int) (h0 : -1000000000 ≤ n) (h : n ≤ 1000000000) : DL.inR n = true := by
  simp only [DL.inR, Bool.and_eq_true, decide_eq_true_eq]
  omega
theorem texts_lst : ∀ ps : List (List Nat), texts (ps.map lst) = some (ps.map fun p => (⟨p.toArray⟩ : Str))
  | [] => rfl
  | p :: ps => by
    show (texts (ps.map lst)).map (_ :: ·) = _
    rw [texts_lst ps] <;> rfl
theorem joinE (ps : List (List Nat)) : Txt.join "" (ps.map fun p => (⟨p.toArray⟩ : Str)) = ⟨ps.flatten.toArray⟩ := by
  refine ext_tl ?_
  rw [join_eq, tl_join]
  show joinL [] _ = ps.flatten
  rw [joinL_flat, List.map_map]
  show (ps.map id).flatten = _
  rw [List.map_id]
theorem sum_len : ∀ ps : List (List Nat), ((ps.map fun p => (⟨p.toArray⟩ : Str)).map (·.length)).sum = ps.flatten.length
  | [] => rfl
  | p :: ps => by
    rw [List.map_cons, List.map_cons, List.sum_cons, sum_len ps, List.flatten_cons, List.length_append]
    rfl
/-- "".join of a list of texts -/
theorem mJoin_lst (ps : List (List Nat)) (h : ps.flatten.length ≤ 10000000) : mJoin (.str "") [.list (ps.map lst)] = some (lst ps.flatten) := by
  show ((texts (ps.map lst)).bind fun ys => if (ys.map (·.length)).sum + ys.length * ("" : Str).length ≤ 16777216 then some (PyData.str (Txt.join "" ys)) else none) = _
  rw [texts_lst]
  show (if _ then _ else _) = _
  rw [if_pos, joinE]
  rw [sum_len]
  have e : ("" : Str).length = 0 := rfl
  rw [e]
  omega
theorem mJoin_sg (cs : List Nat) (h : cs.length ≤ 10000000) : mJoin (.str "") [.list (cs.map sgn)] = some (lst cs) := by
  have e : cs.map sgn = (cs.map fun c => [c]).map lst := by rw [List.map_map]; rfl
  have f : (cs.map fun c => [c]).flatten = cs := flat_one cs
  rw [e, mJoin_lst _ (by rw [f]; exact h), f]
theorem ty_str (z : Str) : tyD "str" (.str z) = true := rfl
theorem dAdd4_l (a b : List Nat) (h : a.length + b.length ≤ sizeLine) : dAdd4 (lst a) (lst b) = some (lst (a ++ b)) := by
  rw [show dAdd4 (lst a) (lst b) = dAdd (lst a) (lst b) from dAdd4_str _ _, dAdd_s (show (⟨a.toArray⟩ : Str).length + (⟨b.toArray⟩ : Str).length ≤ sizeLine from h), app_l]
theorem dAdd4_li (a b : List D) (h : a.length + b.length ≤ sizeLine) : dAdd4 (.list a) (.list b) = some (.list (a ++ b)) := by
  show (if _ then some _ else none) = _
  rw [if_pos h]
theorem dAdd4_t (a b : List D) (h : a.length + b.length ≤ sizeLine) : dAdd4 (.tuple a) (.tuple b) = some (.tuple (a ++ b)) := by
  show (if _ then some _ else none) = _
  rw [if_pos h]
end DL
end

section
namespace DL
open PySem PySem.Spec PyProof.Rows L2 TL
/-! loops that leave at the first miss; enumerations by index; plain words -/
theorem forE_all {ι : Type} {k : D → Rho → Option Rho} {s : Rho → SR} (j : ι → D) (P : ι → Bool) (J : Rho → Prop) (y : D) : ∀ (xs : List ι) (r : Rho), (∀ x ∈ xs, ∀ r, J r → ∃ r1, k (j x) r = some r1 ∧ ∃ r2, J r2 ∧ s r1 = if P x = true then .nx r2 else .rt y r2) → J r → ∃ r', J r' ∧ forE k s (xs.map j) r = if xs.all P = true then .nx r' else .rt y r'
  | [], r, _, h => ⟨r, h, rfl⟩
  | x :: xs, r, st, h => by
    obtain ⟨r1, e1, r2, h2, e2⟩ := st x List.mem_cons_self r h
    cases hp : P x with
    | false =>
      rw [hp] at e2
      refine ⟨r2, h2, ?_⟩
      rw [List.map_cons, List.all_cons, hp]
      exact forE_rt e1 e2
    | true =>
      rw [hp] at e2
      obtain ⟨r', h', e'⟩ := forE_all j P J y xs r2 (fun x hx => st x (List.mem_cons_of_mem _ hx)) h2
      refine ⟨r', h', ?_⟩
      rw [List.map_cons, List.all_cons, hp, forE_nx e1 e2, e', Bool.true_and]
theorem map_range {α : Type} (xs : List α) (z : α) : xs = (List.range xs.length).map fun i => xs.getD i z := by
  apply List.ext_getElem
  · simp
  · intro i h1 h2
    simp [List.getD_eq_getElem?_getD, List.getElem?_eq_getElem h1]
theorem enum_range {α : Type} (j : α → D) (xs : List α) (z : α) : enumD (xs.map j) = (List.range xs.length).map fun i : Nat => PyData.tuple [.int (i : Int), j (xs.getD i z)] := by
  rw [enumD_eq]
  apply List.ext_getElem
  · simp
  · intro i h1 h2
    have : i < xs.length := by simpa using h1
    simp [List.getD_eq_getElem?_getD, List.getElem?_eq_getElem this]
theorem getD_lt {α : Type} {xs : List α} {i : Nat} (h : i < xs.length) (z : α) : xs.getD i z = xs[i] := by
  simp [List.getD_eq_getElem?_getD, List.getElem?_eq_getElem h]
theorem getD_mem {α : Type} {xs : List α} {i : Nat} (h : i < xs.length) (z : α) : xs.getD i z ∈ xs := by
  rw [getD_lt h]; exact List.getElem_mem h
/-- the sign at an index, in bounds -/
theorem ix_sg (w : List Nat) (i : Nat) (h : i < w.length) (hl : w.length ≤ sizeLine) : dIx (lst w) (.int (i : Int)) = some (sgn (w.getD i 0)) := by
  rw [ix_s w (by omega) (by omega) hl, getD_lt h]
  simp [List.getElem?_eq_getElem h]
theorem ix_lg {α : Type} (j : α → D) (z : α) (xs : List α) (i : Nat) (h : i < xs.length) : dIx (.list (xs.map j)) (.int (i : Int)) = some (j (xs.getD i z)) := by
  rw [ix_li _ (by omega) (by rw [List.length_map]; omega), getD_lt h]
  simp [List.getElem?_eq_getElem h]
theorem ix_tg {α : Type} (j : α → D) (z : α) (xs : List α) (i : Nat) (h : i < xs.length) : dIx (.tuple (xs.map j)) (.int (i : Int)) = some (j (xs.getD i z)) := by
  rw [ix_t _ (by omega) (by rw [List.length_map]; omega), getD_lt h]
  simp [List.getElem?_eq_getElem h]
/-- what stands at an index of a word, perhaps outside -/
def atW (w : List Nat) (i : Int) : Option Nat := if 0 ≤ i ∧ i < w.length then some (w.getD i.toNat 0) else none
theorem atW_in {w : List Nat} {i : Int} (h0 : 0 ≤ i) (h1 : i < w.length) : atW w i = some (w.getD i.toNat 0) := if_pos ⟨h0, h1⟩
theorem atW_out {w : List Nat} {i : Int} (h : ¬ (0 ≤ i ∧ i < w.length)) : atW w i = none := if_neg h
theorem atW_mem {w : List Nat} {i : Int} {c : Nat} (h : atW w i = some c) : c ∈ w := by
  unfold atW at h
  split at h
  · cases h; exact getD_mem (by omega) _
  · cases h
theorem nb_lst (l : List Nat) : nobool (lst l) = true := rfl
end DL
end

section
namespace DL
open PySem PySem.Spec PyProof.Rows L2 TL
/-! sorted signs; slices by length -/
def srt (l : List Nat) : List Nat := l.mergeSort fun a b => decide (a ≤ b)
theorem srt_perm (l : List Nat) : (srt l).Perm l := List.mergeSort_perm _ _
theorem srt_len (l : List Nat) : (srt l).length = l.length := (srt_perm l).length_eq
theorem srt_pw (l : List Nat) : (srt l).Pairwise (· ≤ ·) := by
  have := List.pairwise_mergeSort (le := fun a b : Nat => decide (a ≤ b)) (fun a b c h k => decide_eq_true (Nat.le_trans (of_decide_eq_true h) (of_decide_eq_true k))) (fun a b => by
    rcases Nat.le_total a b with h | h
    · simp [h]
    · simp [h]) l
  exact this.imp fun h => of_decide_eq_true h
theorem srt_of {l m : List Nat} (p : l.Perm m) (h : l.Pairwise (· ≤ ·)) : srt m = l :=
  List.Perm.eq_of_pairwise (le := fun a b : Nat => a ≤ b) (fun _ _ _ _ => Nat.le_antisymm) (srt_pw m) h ((srt_perm m).trans p.symm)
theorem srt_mem {l : List Nat} {c : Nat} : c ∈ srt l ↔ c ∈ l := (srt_perm l).mem_iff
theorem sortStr_sing (l : List Nat) : sortStr (l.map sing) = (srt l).map sing := by
  have pm := List.mergeSort_perm (l.map sing) leS
  have ps := List.pairwise_mergeSort leS_trans leS_total (l.map sing)
  refine List.Perm.eq_of_pairwise (le := fun a b => leS a b = true) (fun _ _ _ _ => leS_anti) ps ?_ (pm.trans ((srt_perm l).symm.map sing))
  exact List.pairwise_map.mpr ((srt_pw l).imp fun h => by rw [leS_sing]; exact decide_eq_true h)
theorem sgn_map (l : List Nat) : l.map sgn = (l.map sing).map PyData.str := (sgn_sing l).symm
theorem cSorted_s (l : List Nat) (h : l.length ≤ sizeLine) : cSorted [lst l] = some ((srt l).map sgn) := by
  show (if (⟨l.toArray⟩ : Str).cps.size ≤ sizeLine then some ((sortStr (sgs ⟨l.toArray⟩)).map PyData.str) else none) = _
  rw [if_pos (by simpa using h)]
  have : sgs ⟨l.toArray⟩ = l.map sing := by unfold sgs sing; simp
  rw [this, sortStr_sing, sgn_sing]
theorem cSorted_l (l : List Nat) (h : l.length ≤ sizeLine) : cSorted [.list (l.map sgn)] = some ((srt l).map sgn) := by
  have e : cSorted [.list (l.map sgn)] = if (l.map sing).length ≤ sizeLine then some ((sortStr (l.map sing)).map PyData.str) else none := by
    have := strsOf_map (l.map sing)
    rw [sgn_sing] at this
    unfold cSorted
    simp only [this]
  rw [e, if_pos (by simpa using h), sortStr_sing, sgn_sing]
theorem dNe_sgns {p q : List Nat} (hp : ∀ c ∈ p, c < 128) (hq : ∀ c ∈ q, c < 128) (lp : p.length ≤ 1000) (lq : q.length ≤ 1000) : dNe (.list (p.map sgn)) (.list (q.map sgn)) = some (.bool (!decide (p = q))) := by
  obtain ⟨b, e, h⟩ := dEq_fine ((fine_sgns hp 1000 lp)) ((fine_sgns hq 1000 lq)) (by omega) (nobool_map sgn (fun _ => rfl) p) (nobool_map sgn (fun _ => rfl) q)
  rw [dNe_of e]
  have : b = decide (p = q) := by
    rw [Bool.eq_iff_iff, decide_eq_true_eq, h]
    exact ⟨fun z => map_inj (fun _ _ => sgn_inj) (PyData.list.inj z), fun z => by rw [z]⟩
  rw [this]
theorem cutD_to {α : Type} (j : α → D) (l : List α) (n : Int) (h0 : 0 ≤ n) (h : n ≤ l.length) : cutD (l.map j) none (some n) = (l.take n.toNat).map j := by
  unfold cutD HT.sIx
  simp only [List.length_map]
  rw [if_neg (by omega), List.drop_zero, List.map_take]
  congr 1
  omega
theorem cutD_from {α : Type} (j : α → D) (l : List α) (n : Int) (h0 : 0 ≤ n) (h : n ≤ l.length) : cutD (l.map j) (some n) none = (l.drop n.toNat).map j := by
  unfold cutD HT.sIx
  simp only [List.length_map]
  rw [if_neg (by omega), List.map_drop, show min n.toNat l.length = n.toNat by omega, List.take_of_length_le]
  rw [List.length_drop, List.length_map]; omega
theorem sl_to (l : List Nat) (n : Int) (h0 : 0 ≤ n) (h : n ≤ l.length) (hl : l.length ≤ sizeLine) : dSl (lst l) none (some n) = some (lst (l.take n.toNat)) := by
  rw [dSl_str (z := ⟨l.toArray⟩) (show (⟨l.toArray⟩ : Str).length ≤ sizeLine from hl)]
  have e : cutS (⟨l.toArray⟩ : Str) none (some n) = ⟨(l.take n.toNat).toArray⟩ := by
    unfold cutS HT.sIx
    have : (⟨l.toArray⟩ : Str).length = l.length := rfl
    simp only [this]
    rw [if_neg (by omega), List.drop_zero]
    congr 2
    show (l.take _) = _
    congr 1
    omega
  rw [e]
theorem sl_from (l : List Nat) (n : Int) (h0 : 0 ≤ n) (h : n ≤ l.length) (hl : l.length ≤ sizeLine) : dSl (lst l) (some n) none = some (lst (l.drop n.toNat)) := by
  rw [dSl_str (z := ⟨l.toArray⟩) (show (⟨l.toArray⟩ : Str).length ≤ sizeLine from hl)]
  have e : cutS (⟨l.toArray⟩ : Str) (some n) none = ⟨(l.drop n.toNat).toArray⟩ := by
    unfold cutS HT.sIx
    have : (⟨l.toArray⟩ : Str).length = l.length := rfl
    simp only [this]
    rw [if_neg (by omega), show min n.toNat l.length = n.toNat by omega]
    congr 2
    show ((l.drop _).take _) = _
    rw [List.take_of_length_le]
    rw [List.length_drop]; omega
  rw [e]
theorem sl_upto (l : List Nat) (n : Nat) (hn : n < l.length) (hl : l.length ≤ sizeLine) : dSl (lst l) none (some (-((n : Int) + 1))) = some (lst (l.take (l.length - (n + 1)))) := by
  rw [dSl_str (z := ⟨l.toArray⟩) (show (⟨l.toArray⟩ : Str).length ≤ sizeLine from hl)]
  have e : cutS (⟨l.toArray⟩ : Str) none (some (-((n : Int) + 1))) = ⟨(l.take (l.length - (n + 1))).toArray⟩ := by
    unfold cutS HT.sIx
    have : (⟨l.toArray⟩ : Str).length = l.length := rfl
    simp only [this]
    rw [if_pos (by omega), List.drop_zero]
    congr 2
    show (l.take _) = _
    congr 1
    omega
  rw [e]
end DL
end

section
namespace DL
open PySem PySem.Spec PyProof.Rows L2 TL
/-! where a sign stands in a text -/
theorem ix_of (w : List Nat) (c : Nat) (h : c ∈ w) : mIndexS (lst w) [sgn c] = some (.int (w.idxOf c : Nat)) := by
  have hi := List.idxOf_lt_length_iff.mpr h
  have he : w[w.idxOf c]? = some c := by rw [List.getElem?_eq_getElem hi, List.getElem_idxOf hi]
  have at_ : ∀ i, PySem.StrLaws.At ⟨w.toArray⟩ ⟨#[c]⟩ (⟨w.toArray⟩ : Str).length i ↔ w[i]? = some c := fun i => PySem.StrLaws.subAt_one ⟨w.toArray⟩ c i
  rcases PySem.StrLaws.occ_head ⟨w.toArray⟩ ⟨#[c]⟩ 1 (by omega) with ⟨_, hn⟩ | ⟨i, r, e, ha, hn⟩
  · exact absurd ((at_ _).mpr he) (hn _)
  · have e1 : i = w.idxOf c := by
      have h1 : ¬ w.idxOf c < i := fun hlt => hn _ hlt ((at_ _).mpr he)
      have h2 : ¬ i < w.idxOf c := fun hlt => by
        have := List.not_of_lt_findIdx (p := (· == c)) (xs := w) hlt
        have h3 := (at_ i).mp ha
        rw [List.getElem?_eq_getElem (by omega)] at h3
        rw [Option.some.injEq] at h3
        rw [h3] at this
        simp at this
      omega
    rw [← e1]
    exact mIndexS_of (a := ⟨w.toArray⟩) (b := ⟨#[c]⟩) e
theorem dNe_self {n w : Nat} {x : D} (h : Fine n w x) (hn : n ≤ 60) (hb : nobool x = true) : dNe x x = some (.bool false) := by
  obtain ⟨b, e, hi⟩ := dEq_fine h h hn hb hb
  rw [dNe_of e, hi.mpr rfl]; rfl
theorem dEq_self {n w : Nat} {x : D} (h : Fine n w x) (hn : n ≤ 60) (hb : nobool x = true) : dEq x x = some (.bool true) := by
  obtain ⟨b, e, hi⟩ := dEq_fine h h hn hb hb
  rw [e, hi.mpr rfl]
end DL
end

section
set_option maxHeartbeats 1000000
namespace DL
open PySem PySem.Spec PyProof.Rows L2
section
variable {X : Cx} {W : WX} {ms : Ms} {rs : Shp} {a b e : Expr} {f g : Rho → R Opd} {pos : Pos}
/-! own lists by an operator; list(range(n)) -/
def SemRL (X : Cx) (r : R2) (sem : D → D → Option (List D)) : Prop := ∀ (x y : V) (a b : D) (es : List D) (H : Hp) (W : Gh) (Q : VK), RepB X.K (msk H W) H x a → RepB X.K (msk H W) H y b → (∀ p, W p → H p ≠ none) → sem a b = some es →
  (∀ vs H' p, Same H H' → H' p = none → RepAll X.K (msk H' W) vs es → Q (.ref p) (upd H' p (.lst vs))) → r x y H Q
def eBinL (sem : D → D → Option (List D)) (f g : Rho → R Opd) : Rho → R D := fun r => (f r).bind fun a r1 => (g r1).bind fun b r2 => .ofO ((a.get r2).bind fun x => (b.get r2).bind fun y => (sem x y).bind fun es => some (.list es)) r2
theorem binL_read {r : R2} {sem : D → D → Option (List D)} (hs : SemRL X r sem) {σ : L2.St} {H : Hp} {Q : VK} (h : tEo X W ms .lst (eBinL sem f g) σ H Q) : tOp r (tO X W ms f) (tO X W ms g) σ H Q := by
  obtain ⟨ρ, O, G, R, h⟩ := h
  unfold eBinL at h
  rw [on_bind] at h
  refine tO_step R h fun a1 r1 v1 H1 O1 h1 R1 E1 p1 => ?_
  rw [on_bind] at h1
  refine tO_step R1 (bxm E1 h1) fun a2 r2 v2 H2 O2 h2 R2 E2 p2 => ?_
  obtain ⟨d, e, h2⟩ := on_ofO h2
  obtain ⟨x, ex, e⟩ := bind_some e
  obtain ⟨y, ey, e⟩ := bind_some e
  obtain ⟨es, e2, e⟩ := bind_some e
  cases e
  refine hs v1 v2 x y es H2 (Ow O2 G) Q ((p1.mono E2.sm).get R2 ex) (p2.get R2 ey) R2.trO e2 fun vs' H' p sm hp rp => ?_
  obtain ⟨R3, E3, n, rs⟩ := own_new (R2.same sm) hp rp
  exact h2 _ _ O2 [p] R3 (E1.trans (E2.trans ((Ext.same sm R2.tr).trans E3))) n rs
theorem ceo_bin {op : Operator} {r : R2} {sem : D → D → Option (List D)} (ho : OpR X (binaryOp op) r) (hs : SemRL X r sem) (ha : CO X W ms a f) (hb : CO X W ms b g) : CEo X W ms .lst (.BinOp a op b pos) (eBinL sem f g) :=
  (pe_op ho ha hb).weak fun _ _ _ h => binL_read hs h
def dCatL : D → D → Option (List D)
  | .list a, .list b => if a.length + b.length ≤ sizeLine then some (a ++ b) else none
  | _, _ => none
theorem sr_catL : SemRL X rCatL dCatL := fun x y a b es H W Q ra rb tr e q => by
  unfold dCatL at e
  split at e
  · rename_i as bs
    obtain ⟨hz, rfl⟩ := ite_some e
    obtain ⟨p, xs, rfl, h1, r1⟩ := ra.lstI
    obtain ⟨p', ys, rfl, h2, r2⟩ := rb.lstI
    exact ⟨p, p', xs, ys, rfl, rfl, h1, h2, by rw [r1.len, r2.len]; exact hz, fun l hl => q _ H l (Same.refl _) hl (r1.append r2)⟩
  · cases e
def rRepL : R2 := fun x y H Q => ∃ l k xs, x = .ref l ∧ y = .int k ∧ Rd H l (.lst xs) ∧ -(2 ^ 63) ≤ k ∧ k < 2 ^ 63 ∧ xs.length * k.toNat ≤ sizeLine ∧
  ∀ p, H p = none → Q (.ref p) (upd H p (.lst (List.replicate k.toNat xs).flatten))
theorem op_repL : OpR X (binaryOp .Mult) rRepL := by
  intro pins s σ H x y v u Q I rx ry h
  obtain ⟨l, k, xs, rfl, rfl, hH, h1, h2, hz, q⟩ := h
  cases rx
  obtain ⟨t, rfl⟩ := ry
  obtain ⟨z, its, n, r, e⟩ := hH.ok I.hok
  have hl := r.length
  have hlen : its.toArray.size * k.toNat ≤ sizeLine := by rw [List.size_toArray, ← hl]; exact hz
  have hcap : ¬ its.toArray.size * k.toNat > (2 ^ 63 - 1) / 8 := by
    have : (sizeLine : Nat) ≤ (2 ^ 63 - 1) / 8 := by decide
    omega
  have hfit : ¬ (!Builtin.List.listFitsIndex k) = true := by
    rw [fitsIndex_both h1 h2]
    exact Bool.false_ne_true
  have hlong : ¬ Builtin.List.listTooLong (its.toArray.size * k.toNat) = true := by
    rw [notLongL hlen]
    exact Bool.false_ne_true
  have hnew : List.foldl (fun x1 x2 => x1 ++ x2) #[] (List.replicate (if its.toArray.isEmpty = true then 0 else k.toNat) its.toArray) = (List.replicate k.toNat its).flatten.toArray := by
    have f0 : ∀ m : Nat, List.foldl (fun x1 x2 => x1 ++ x2) #[] (List.replicate m its.toArray) = (List.replicate m its).flatten.toArray := fun m => by
      have := foldl_rep its m []
      rw [List.nil_append] at this
      exact this
    rw [f0]
    cases its with
    | nil => simp
    | cons a r' => rw [if_neg (by simp)]
  refine wpAny_binaryOp_repeat_ref (T := "list") (U := "int") (by decide) ⟨_, e, rfl⟩ (fun s' => typeIs_int s' k t) noFill_list_mul F.fills_int_mul F.slot_int_rmul repeat_list F.slot_int_index.lookup
    (call_meets F.slot_int_rmul (typeIs_int s k t) F.entry_int_rmul (F.args_int_rmul_2 _ _) (int___rmul___int_list k t l its.toArray n)
      ⟨e, rfl, ⟨_, e, rfl⟩, call_meets F.slot_list_mul ⟨_, e, rfl⟩ F.entry_list_mul (F.args_list_mul_2 _ _) (AutoListH.list___mul___list_int_3 l its.toArray n k t hfit hcap hlong) ⟨e, ?_⟩⟩)
  rw [hnew]
  exact ⟨.ref _, _, I.lnew (t' := s.toks) (r.rep k.toNat) (by rw [PyProof.Rows.lm_len_rep_flat, Nat.mul_comm]; exact hz), rfl, q _ I.fresh⟩
def dRepL : D → D → Option (List D)
  | .list a, .int k => if (decide (-1000000 ≤ k) && (decide (k ≤ 1000000) && decide (a.length * k.toNat ≤ sizeLine))) = true then some (List.replicate k.toNat a).flatten else none
  | _, _ => none
theorem repAll_rep {K : PySem.W.Frag} {M : Hp} {xs : List V} {ds : List D} (h : RepAll K M xs ds) : ∀ n, RepAll K M (List.replicate n xs).flatten (List.replicate n ds).flatten
  | 0 => .nil
  | n + 1 => by
    rw [List.replicate_succ, List.replicate_succ, List.flatten_cons, List.flatten_cons]
    exact h.append (repAll_rep h n)
theorem sr_repL : SemRL X rRepL dRepL := fun x y a b es H W Q ra rb tr e q => by
  unfold dRepL at e
  split at e
  · rename_i as k
    obtain ⟨hz, rfl⟩ := ite_some e
    simp only [Bool.and_eq_true, decide_eq_true_eq] at hz
    obtain ⟨p, xs, rfl, h1, r1⟩ := ra.lstI
    rw [rb.intI]
    exact ⟨p, k, xs, rfl, rfl, h1, by omega, by omega, by rw [r1.len]; exact hz.2.2, fun l hl => q _ H l (Same.refl _) hl (repAll_rep r1 _)⟩
  · cases e
theorem rg_int (n : Int) : rgV 0 n = ((List.range n.toNat).map fun i : Nat => (i : Int)).map V.int := by
  unfold rgV
  rw [List.map_map, show (n - 0).toNat = n.toNat by omega]
  refine List.map_congr_left fun i _ => ?_
  show V.int (0 + (i : Nat)) = V.int (i : Nat)
  rw [Int.zero_add]
theorem rg_dat (n : Int) : rngD 0 n.toNat = ((List.range n.toNat).map fun i : Nat => (i : Int)).map PyData.int := by
  unfold rngD
  rw [List.map_map]
  refine List.map_congr_left fun i _ => ?_
  show PyData.int (0 + (i : Nat)) = PyData.int (i : Nat)
  rw [Int.zero_add]
def eLstRg (f : Rho → R D) : Rho → R D := fun r => (f r).bind fun d r1 => match d with
  | .int n => if (decide (-1000000000 ≤ n) && decide (n ≤ 1000000)) = true then .ok (.list (rngD 0 n.toNat)) r1 else .bad
  | _ => .bad
theorem ceo_lstRg {f : Rho → R D} {p p2 q : Pos} (he : CE X W ms e f) (hm : X.mg "list" = none) (hm2 : X.mg "range" = none) (hc : X.calm = true := by rfl) (hg : Gl X "list" := by rfl) (hg2 : Gl X "range" := by rfl)
    (na : starEach [e] X.env = (false, eval e X.env) :: starEach [] X.env := by rfl)
    (na2 : starEach [.Call (.Name "range" p2) [e] [] q] X.env = (false, eval (.Call (.Name "range" p2) [e] [] q) X.env) :: starEach [] X.env := by rfl) : CEo X W ms .lst (.Call (.Name "list" p) [.Call (.Name "range" p2) [e] [] q] [] pos) (eLstRg f) :=
  (pe_listRg hc hg hm (prg_1 hg2 hm2 he na) na2).weak fun σ H Q ⟨r, O, G, R, h⟩ => by
    unfold eLstRg at h
    rw [on_bind] at h
    refine tE_step R h fun d r1 v H1 O1 h1 R1 E1 p1 => ?_
    cases d with
    | int n =>
      simp only at h1
      split at h1
      · rename_i hz
        simp only [Bool.and_eq_true, decide_eq_true_eq] at hz
        refine ⟨n, p1.intI, ⟨by omega, by omega, by omega, by omega, by omega⟩, fun p hp => ?_⟩
        rw [rg_int]
        rw [rg_dat] at h1
        obtain ⟨R2, E2, nn, rs⟩ := own_new R1 hp (repInts (K := X.K) (H := msk H1 (Ow O1 G)) ((List.range n.toNat).map fun i : Nat => (i : Int)))
        exact h1 _ _ O1 [p] R2 (E1.trans E2) nn rs
      · exact False.elim h1
    | _ => exact False.elim h1
end
@[simp] theorem v_binL (sem : D → D → Option (List D)) (f g : Rho → R Opd) : eBinL sem f g r = (f r).bind fun a r1 => (g r1).bind fun b r2 => .ofO ((a.get r2).bind fun x => (b.get r2).bind fun y => (sem x y).bind fun es => some (.list es)) r2 := Eq.trans rfl rfl
@[simp] theorem v_lstRg (f : Rho → R D) : eLstRg f r = (f r).bind fun d r1 => match d with
  | .int n => if (decide (-1000000000 ≤ n) && decide (n ≤ 1000000)) = true then .ok (.list (rngD 0 n.toNat)) r1 else .bad
  | _ => .bad := Eq.trans rfl rfl
end DL
end

section
namespace DL
open PySem PySem.Spec PyProof.Rows L2 TL
/-! comprehensions with two fors; zips by pairs -/
theorem compI_map {ι : Type} {vs : List Nat} {k : D → Rho → Option Rho} {f : Rho → R D} (j m : ι → D) (r0 : Rho) : ∀ (xs : List ι) (r : Rho) (acc : List D), wipeR r vs = r0 → (∀ x ∈ xs, ∃ r1, k (j x) r0 = some r1 ∧ f r1 = .ok (m x) r1 ∧ wipeR r1 vs = r0) → acc.length + xs.length ≤ sizeLine →
    ∃ r', compI vs k tYesR f (xs.map j) r acc = .ok (acc ++ xs.map m) r' ∧ (r' = r ∨ wipeR r' vs = r0)
  | [], r, acc, _, _, _ => ⟨r, by simp [compI], .inl rfl⟩
  | x :: xs, r, acc, hr, hp, hl => by
    obtain ⟨r1, e1, e2, e3⟩ := hp x List.mem_cons_self
    rw [List.length_cons] at hl
    obtain ⟨r', e, h⟩ := compI_map j m r0 xs r1 (acc ++ [m x]) e3 (fun y hy => hp y (List.mem_cons_of_mem _ hy)) (by rw [List.length_append]; simp only [List.length_cons, List.length_nil]; omega)
    refine ⟨r', ?_, .inr (h.elim (fun h => by rw [h]; exact e3) id)⟩
    rw [List.map_cons]
    unfold compI
    rw [hr, e1]
    simp only [v_yes, noX_ok, bind_ok, if_true, e2]
    rw [if_pos (by omega), e]
    simp
theorem compO_flat {ι : Type} {vs vs1 : List Nat} {k k1 : D → Rho → Option Rho} {i1 : Rho → R (List D)} {f : Rho → R D} (j : ι → D) (m : ι → List D) (n : Nat) (r0 : Rho) : ∀ (xs : List ι) (r : Rho) (acc : List D), wipeR r vs = r0 →
    (∀ x ∈ xs, ∀ acc : List D, acc.length + n ≤ sizeLine → (m x).length ≤ n ∧ ∃ r1 ds1, k (j x) r0 = some r1 ∧ i1 r1 = .ok ds1 r1 ∧ ∃ r2, compI vs1 k1 tYesR f ds1 r1 acc = .ok (acc ++ m x) r2 ∧ wipeR r2 vs = r0) → acc.length + xs.length * n ≤ sizeLine →
    ∃ r', compO vs vs1 k tYesR i1 k1 tYesR f (xs.map j) r acc = .ok (acc ++ xs.flatMap m) r' ∧ wipeR r' vs = r0
  | [], r, acc, hr, _, _ => ⟨r, by simp [compO], hr⟩
  | x :: xs, r, acc, hr, hp, hl => by
    rw [List.length_cons, Nat.add_mul, Nat.one_mul] at hl
    obtain ⟨hm, r1, ds1, e1, e2, r2, e3, e4⟩ := hp x List.mem_cons_self acc (by omega)
    obtain ⟨r', e, h⟩ := compO_flat j m n r0 xs r2 (acc ++ m x) e4 (fun y hy => hp y (List.mem_cons_of_mem _ hy)) (by rw [List.length_append]; omega)
    refine ⟨r', ?_, h⟩
    rw [List.map_cons, c2_cons, hr, e1]
    simp only [v_yes, noX_ok, bind_ok, if_true, e2, e3, e]
    simp
theorem zip_pairs {α β : Type} (f : α → D) (g : β → D) : ∀ (xs : List α) (ys : List β), zipD (xs.map f) (ys.map g) = (xs.zip ys).map fun p => PyData.tuple [f p.1, g p.2]
  | [], _ => rfl
  | _ :: _, [] => rfl
  | x :: xs, y :: ys => by
    show PyData.tuple [f x, g y] :: zipD (xs.map f) (ys.map g) = _
    rw [zip_pairs f g xs ys]; rfl
end DL
end

section
set_option maxHeartbeats 1000000
namespace DL
open PySem PySem.Spec PyProof.Rows L2
/-! defs with one keyword-only parameter that has an int as its default -/
def AtK (K : PySem.W.Frag) (mg : Str → Option Value) (x : Str) (st : Stmt) (kn : Str) (c : Int) : Prop := mg x = some (.ref (He.ga K x)) ∧ ∃ fd, FunD K x x (defArgs st) (defBody st) (defScope st) [] [(kn, V.int c)] (He.ga K x) fd
def OkK (P : Program) (w : World) (K : PySem.W.Frag) (mg : Str → Option Value) (base : Heap) (k : Nat) (x : Str) (ps : List Str) (pm : Ms) (n : Nat) (kn : Str) (c : Int) (F : FS) : Prop :=
  ps.length = n + 1 ∧ ∃ fd, mg x = some (.ref (He.ga K x)) ∧ PySem.W.keepIn K (.ref (He.ga K x)) = true ∧ (∃ ds, Vals [V.int c] ds ∧ Binds K fd ps ds) ∧ KBn K fd ps n [kn] (fun us ws => us ++ ws) (fun vs zs => vs ++ zs) ∧ FnG P w K mg base k (He.ga K x) fd ps (spF w K mg pm .pur (n + 1) F)
theorem ok_ofK {P : Program} {w : World} {K : PySem.W.Frag} {mg : Str → Option Value} {base : Heap} {k : Nat} {x kn : Str} {c : Int} {st : Stmt} {N ps : List Str} {pm ms : Ms} {n m : Nat} {g : Rho → SR} (a : AtK K mg x st kn c) (S : FnScope N ps (defScope st))
    (hd : ∀ (D : Addr) (doc pm : Value) (an : Option Addr) (cdv ct : Value) (us ks : List Value), us.length = n → ks.length = 1 → KwChain D ([kn].zip ks) (bindArgs (PySem.W.fnOf x x (defArgs st) (defBody st) (defScope st) .none (.ref D) doc pm an cdv ct) ⟨us, []⟩) (ps.zip (us ++ ks)))
    (hkw : ∀ (D : Addr) (doc pm : Value) (an : Option Addr) (cdv ct : Value) (us ws : List Value), us.length = n → ws.length = 1 → bindArgs (PySem.W.fnOf x x (defArgs st) (defBody st) (defScope st) .none (.ref D) doc pm an cdv ct) ⟨us, [kn].zip ws⟩ = pure (ps.zip (us ++ ws)))
    (hn : ps.length = n + 1) (hm : N.length - (n + 1) = m) (hms : ∀ i, i < n + 1 → ms i = pm i)
    (hb : ∀ (cdv : Value) (A : Around) (outer : List Env) (s : Shared) (H : Hp) (E : XK), Room k (A.deeper (envOfC x (defScope st) s.heap.objs.size (He.ga K x) cdv)) → (A.deeper (envOfC x (defScope st) s.heap.objs.size (He.ga K x) cdv)).guards = some [] →
      Takes (cxOf (L2.CX P w) P w K mg base N x (defScope st) (He.ga K x) cdv A outer s H E) (fun cls d _ H' => E cls d H') → CSs (cxOf (L2.CX P w) P w K mg base N x (defScope st) (He.ga K x) cdv A outer s H E) (fun cls d _ H' => E cls d H') ms .pur (defBody st) g) :
    OkK P w K mg base (k + 1) x ps pm n kn c (bodyF pm (n + 1) m g) := by
  obtain ⟨hx, fd, F⟩ := a
  refine ⟨hn, fd, hx, F.kp, ?_, ?_, fnG_body F S hn hm hms (.inl rfl) hb⟩
  · exact F.binds0 n (by simp) (by simp [hn]) hd
  · obtain ⟨mv, h⟩ := F.kbinds0 n [kn] [] (fun us _ ws => us ++ ws) (by simp) (by simp) (fun a _ b => a.append b) (fun D doc pm an cdv ct us mv ws l1 l2 l3 => hkw D doc pm an cdv ct us ws l1 l3)
    exact h
section
variable {X : Cx} {W : WX} {ms pm : Ms} {rs : Shp} {k j n : Nat} {ps : List Str} {F : FS} {x kn : Str} {c : Int} {p pos : Pos} {e e2 : Expr} {es : List Expr} {as : List Arg} {σ : L2.St} {H : Hp} {f : Rho → R D}
theorem bind_ass {α β γ : Type} (a : R α) (g : α → Rho → R β) (h : β → Rho → R γ) : (a.bind g).bind h = a.bind fun x r => (g x r).bind h := by cases a <;> rfl
theorem argsR_snoc (f : Rho → R D) : ∀ (as : List Arg) (r : Rho), argsR (as ++ [.e f]) r = (argsR as r).bind fun os r1 => (f r1).bind fun d r2 => .ok (os ++ [.val d]) r2
  | [], r => by
    show (((f r).bind fun d r' => R.ok (Opd.val d) r').bind fun o r1 => (R.ok [] r1 : R (List Opd)).bind fun os r2 => .ok (o :: os) r2) = _
    rw [bind_ass]; rfl
  | .e g :: as, r => by
    show ((oVal g r).bind fun o r1 => (argsR (as ++ [.e f]) r1).bind fun os r2 => .ok (o :: os) r2) = ((oVal g r).bind fun o r1 => (argsR as r1).bind fun os r2 => .ok (o :: os) r2).bind _
    rw [bind_ass]
    congr 1
    funext o r1
    rw [argsR_snoc f as r1, bind_ass, bind_ass]
    congr 1
    funext os r2
    rw [bind_ass]; rfl
  | .s i :: as, r => by
    show ((oSlot i r).bind fun o r1 => (argsR (as ++ [.e f]) r1).bind fun os r2 => .ok (o :: os) r2) = ((oSlot i r).bind fun o r1 => (argsR as r1).bind fun os r2 => .ok (o :: os) r2).bind _
    rw [bind_ass]
    congr 1
    funext o r1
    rw [argsR_snoc f as r1, bind_ass, bind_ass]
    congr 1
    funext os r2
    rw [bind_ass]; rfl
theorem RepOs.append {K : PySem.W.Frag} {M : Hp} {σ : L2.St} {vs ws : List V} {os qs : List Opd} (h : RepOs K M σ vs os) (q : RepOs K M σ ws qs) : RepOs K M σ (vs ++ ws) (os ++ qs) := by
  induction h with
  | nil => exact q
  | cons a _ ih => exact .cons a ih
theorem tA_dfl {Q : List V → Hp → Prop} (h : tA X W ms (argsR (as ++ [.e (eCst (.int c))])) σ H Q) : tA X W ms (argsR as) σ H fun vs H1 => Q (vs ++ [V.int c]) H1 := by
  obtain ⟨r, O, G, R, h⟩ := h
  rw [argsR_snoc, on_bind] at h
  refine tA_step R h fun os r1 vs H1 O1 h1 R1 E1 p1 => ?_
  exact h1 (vs ++ [V.int c]) H1 O1 R1 E1 (p1.append (.cons (.int c) .nil))
theorem tA_kw {Q : List V → Hp → Prop} (h : tA X W ms (argsR (as ++ [.e f])) σ H Q) : tA X W ms (argsR as) σ H fun vs H1 => tE X W ms f σ H1 fun v H2 => Q (vs ++ [v]) H2 := by
  obtain ⟨r, O, G, R, h⟩ := h
  rw [argsR_snoc, on_bind] at h
  refine tA_step R h fun os r1 vs H1 O1 h1 R1 E1 p1 => ?_
  rw [on_bind] at h1
  refine tE_step R1 (bxm E1 h1) fun d r2 v H2 O2 h2 R2 E2 p2 => ?_
  exact h2 (vs ++ [v]) H2 O2 R2 (E1.trans E2) ((p1.mono E2.sm).append (.cons p2 .nil))
theorem tE_mono {Q Q' : VK} (h : tE X W ms f σ H Q) (m : ∀ v H1, Q v H1 → Q' v H1) : tE X W ms f σ H Q' := by
  obtain ⟨r, O, G, R, h⟩ := h
  exact ⟨r, O, G, R, h.mono (fun d r' a v H' O' h1 e1 p => m v H' (a v H' O' h1 e1 p)) fun _ _ _ b => b⟩
theorem run_fnGB {fd : FuncData} {f : Addr} {sp : Sp} {E : XK} {pins : List (Addr × Obj)} {s : Shared} {Q : VK} {us bs : List Value} {vs : List V} {kw : List (Str × Value)} (F : FnG X.prog X.w X.K X.mg X.base k f fd ps sp) (hr : Room k X.A) (hgd : X.A.guards = some []) (b : BindsTo s fd ⟨us, kw⟩ (ps.zip bs)) (hx : PassesAt (L2.CX X.prog X.w) X σ E)
    (I : Inv X pins σ H s) (r : Vals vs bs) (h : sp vs H Q E) : wpAny (model X.prog X.w) X.A (call (.ref f) us kw) (EP X pins σ Q) X.xe s := by
  refine wpAny_call (codeAny_mono (F.run X.A X.stack s H ⟨us, kw⟩ bs vs Q E hr hgd I.env0 b r h) fun r s' hq => ?_)
  cases r with
  | error e => exact hx pins H s e s' I hq
  | ok fl =>
    cases fl with
    | ret u => exact I.after hq
    | next => exact False.elim hq
    | brk => exact False.elim hq
    | cont => exact False.elim hq
/-- the call without the keyword -/
theorem ceo_callD (h : OkK X.prog X.w X.K X.mg X.base j x ps pm n kn c F) (hr : Room k X.A) (hgd : X.A.guards = some []) (tk : Takes X W) (hj : j ≤ k) (ha : CA X W ms (e :: es) (argsR as)) (ok : okArgs ms pm (as ++ [.e (eCst (.int c))]) = true := by rfl) (hn : as.length = n := by rfl)
    (hg : Gl X x := by rfl) (hdb : (x == ("__debug__" : Str)) = false := by decide) (he : starEach (e :: es) X.env = (false, eval e X.env) :: starEach es X.env := by rfl) (hpl : (backTo pos (starEach es X.env)).any (·.1) = false := by rfl) :
    CEo X W ms .pur (.Call (.Name x p) (e :: es) [] pos) (eFn F (as ++ [.e (eCst (.int c))])) := by
  obtain ⟨_, fd, hm, hk, ⟨ds, hv, hb⟩, _, FN⟩ := h
  refine ⟨fun pins s σ H Q I h => ?_⟩
  refine wpAny_Call_Name_kw (ld_glob I hg hm ?_ hdb)
  refine PySem.W.callWith_K (h₀ := X.base) I.ok.mod.kin hk (thn (ha.run pos pins s σ H _ I (tA_dfl (fn_read (n := n + 1) ok (by rw [List.length_append, hn]; rfl) h))) fun us s1 ⟨vs, H1, I1, r, q⟩ => ⟨I1.kIn, ?_⟩) he hpl
  have r2 : Vals (vs ++ [V.int c]) (us ++ ds) := r.append hv
  have hl : (us ++ ds).length = ps.length := by rw [← r2.length]; exact FN.len _ _ _ _ q
  exact run_fnGB FN (hr.mono hj) hgd (hb s1 us I1.kIn hl) (passAt tk σ) I1 r2 q
/-- the call with the keyword -/
theorem ceo_callK {kp : Pos} (h : OkK X.prog X.w X.K X.mg X.base j x ps pm n kn c F) (hr : Room k X.A) (hgd : X.A.guards = some []) (tk : Takes X W) (hj : j ≤ k) (ha : CA X W ms (e :: es) (argsR as)) (hv : CE X W ms e2 f) (ok : okArgs ms pm (as ++ [.e f]) = true := by rfl) (hn : as.length = n := by rfl)
    (hall : (backToKw pos (keywordEach [⟨some kn, e2, kp⟩] X.env)).all (·.1.isSome) = true := by rfl) (hks : (backToKw pos (keywordEach [⟨some kn, e2, kp⟩] X.env)).filterMap (·.1) = [kn] := by rfl)
    (hg : Gl X x := by rfl) (hdb : (x == ("__debug__" : Str)) = false := by decide) (he : starEach (e :: es) X.env = (false, eval e X.env) :: starEach es X.env := by rfl)
    (hpl : ((backTo pos (starEach (e :: es) X.env)).any (·.1) || (backToKw pos (keywordEach [⟨some kn, e2, kp⟩] X.env)).any (·.1.isNone)) = false := by rfl) :
    CEo X W ms .pur (.Call (.Name x p) (e :: es) [⟨some kn, e2, kp⟩] pos) (eFn F (as ++ [.e f])) := by
  obtain ⟨hps, fd, hm, hk, _, kb, FN⟩ := h
  refine ⟨fun pins s σ H Q I h => ?_⟩
  refine wpAny_Call_Name_kw (ld_glob I hg hm ?_ hdb)
  have tl := tA_kw (fn_read (n := n + 1) ok (by rw [List.length_append, hn]; rfl) h)
  refine PySem.W.callWith_KW (h₀ := X.base) I.ok.mod.kin hk hall (thn (ha.run pos pins s σ H _ I tl) fun us s1 ⟨vs, H1, I1, r, q⟩ => ?_) hpl he
  refine thn ((pk_cons (nm := some kn) (kpos := kp) hv pk_nil).run pos pins s1 σ H1 (fun zs H2 => ∃ z, zs = [z] ∧ spF X.w X.K X.mg pm .pur (n + 1) F (vs ++ [z]) H2 Q (WE W σ)) I1 ?_) fun ws s2 ⟨zs, H2, I2, rz, z, ez, q2⟩ => ⟨I2.kIn, ?_⟩
  · exact tE_mono q fun v H2 hq => ⟨v, rfl, hq⟩
  · subst ez
    rw [hks]
    have r2 : Vals (vs ++ [z]) (us ++ ws) := r.append rz
    have hl : us.length = n := by
      have := FN.len _ _ _ _ q2
      rw [hps, List.length_append, List.length_singleton] at this
      rw [← r.length]
      omega
    exact run_fnGB FN (hr.mono hj) hgd (kb.to s2 us ws I2.kIn hl (by rw [← rz.length]; rfl)) (passAt tk σ) I2 r2 q2
end
end DL
end

section
set_option maxHeartbeats 1000000
namespace DL
open PySem PySem.Spec PyProof.Rows L2
section
variable {X : Cx} {W : WX} {ms : Ms} {a b : Expr} {pos : Pos}
/-! list(range(i, j)) -/
theorem rg_int2 (i j : Int) : rgV i j = ((List.range (j - i).toNat).map fun n : Nat => i + (n : Int)).map V.int := by
  unfold rgV
  rw [List.map_map]; rfl
theorem rg_dat2 (i j : Int) : rngD i (j - i).toNat = ((List.range (j - i).toNat).map fun n : Nat => i + (n : Int)).map PyData.int := by
  unfold rngD
  rw [List.map_map]; rfl
def eLstRg2 (f g : Rho → R D) : Rho → R D := fun r => (f r).bind fun d r1 => match d with
  | .int i => (g r1).bind fun d2 r2 => match d2 with
    | .int j => if (decide (-1000000000 ≤ i) && (decide (i ≤ 1000000000) && (decide (-1000000000 ≤ j) && (decide (j ≤ 1000000000) && decide ((j - i).toNat ≤ 1000000))))) = true then .ok (.list (rngD i (j - i).toNat)) r2 else .bad
    | _ => .bad
  | _ => .bad
theorem ceo_lstRg2 {f g : Rho → R D} {p p2 q : Pos} (ha : CE X W ms a f) (hb : CE X W ms b g) (hm : X.mg "list" = none) (hm2 : X.mg "range" = none) (hc : X.calm = true := by rfl) (hg : Gl X "list" := by rfl) (hg2 : Gl X "range" := by rfl)
    (na : starEach [a, b] X.env = (false, eval a X.env) :: starEach [b] X.env := by rfl) (nb : starEach [b] X.env = (false, eval b X.env) :: starEach [] X.env := by rfl) (hp : (backTo q (starEach [b] X.env)).any (·.1) = false := by rfl)
    (na2 : starEach [.Call (.Name "range" p2) [a, b] [] q] X.env = (false, eval (.Call (.Name "range" p2) [a, b] [] q) X.env) :: starEach [] X.env := by rfl) : CEo X W ms .lst (.Call (.Name "list" p) [.Call (.Name "range" p2) [a, b] [] q] [] pos) (eLstRg2 f g) :=
  (pe_listRg hc hg hm (prg_2 hg2 hm2 ha hb na nb hp) na2).weak fun σ H Q ⟨r, O, G, R, h⟩ => by
    unfold eLstRg2 at h
    rw [on_bind] at h
    refine tE_step R h fun d r1 v H1 O1 h1 R1 E1 p1 => ?_
    cases d with
    | int i =>
      simp only at h1
      rw [on_bind] at h1
      refine tE_step R1 (bxm E1 h1) fun d2 r2 v2 H2 O2 h2 R2 E2 p2 => ?_
      cases d2 with
      | int j =>
        simp only at h2
        split at h2
        · rename_i hz
          simp only [Bool.and_eq_true, decide_eq_true_eq] at hz
          refine ⟨i, j, p1.intI, p2.intI, ⟨by omega, by omega, by omega, by omega, by omega⟩, fun p hp => ?_⟩
          rw [rg_int2]
          rw [rg_dat2] at h2
          obtain ⟨R3, E3, nn, rs⟩ := own_new R2 hp (repInts (K := X.K) (H := msk H2 (Ow O2 G)) ((List.range (j - i).toNat).map fun n : Nat => i + (n : Int)))
          exact h2 _ _ O2 [p] R3 (E1.trans (E2.trans E3)) nn rs
        · exact False.elim h2
      | _ => exact False.elim h2
    | _ => exact False.elim h1
end
@[simp] theorem v_lstRg2 (f g : Rho → R D) : eLstRg2 f g r = (f r).bind fun d r1 => match d with
  | .int i => (g r1).bind fun d2 r2 => match d2 with
    | .int j => if (decide (-1000000000 ≤ i) && (decide (i ≤ 1000000000) && (decide (-1000000000 ≤ j) && (decide (j ≤ 1000000000) && decide ((j - i).toNat ≤ 1000000))))) = true then .ok (.list (rngD i (j - i).toNat)) r2 else .bad
    | _ => .bad
  | _ => .bad := Eq.trans rfl rfl
end DL
end

section
set_option maxHeartbeats 1000000
namespace DL
open PySem PySem.Spec PyProof.Rows L2
section
variable {X : Cx}
/-! xs.index(i), xs a list of ints -/
def mIndexI : D → List D → Option D := fun c ds => match c, ds with
  | .list cs, [.int y] => match intsOf cs with
    | some ns => if ns.idxOf y < ns.length then some (.int (ns.idxOf y : Nat)) else none
    | none => none
  | _, _ => none
theorem sm_indexI : SemM X (rIndex X.K) mIndexI := fun x c xs ds d H W Q rc rx tr e q => by
  unfold mIndexI at e
  split at e
  · rename_i cs y
    split at e
    · rename_i ns en
      obtain ⟨hlt, rfl⟩ := ite_some e
      obtain ⟨p, ys, rfl, h1, ra⟩ := rc.lstI
      rw [intsOf_eq en] at ra
      have := ra.ints
      subst this
      cases rx with
      | cons r1 r2 =>
        cases r2
        rw [r1.intI]
        have hl : ns.idxOf y < ns.length := by simpa using hlt
        refine ⟨p, ns.map V.int, .int y, ns.idxOf y, .int y, rfl, rfl, .inl h1, rfl, List.all_eq_true.mpr fun v hv => ?_, ?_, ?_, fun m z' hm hz => ?_, q _ H (Same.refl _) (.int _)⟩
        · obtain ⟨i, _, rfl⟩ := List.mem_map.mp hv; rfl
        · rw [List.getElem?_map, List.getElem?_eq_getElem hl, List.getElem_idxOf hl]; rfl
        · show decide _ = true; simp
        · rw [List.getElem?_map, List.getElem?_eq_getElem (by omega)] at hz
          cases hz
          have hne : (ns[m]'(by omega) == y) = false := List.not_of_lt_findIdx (p := (· == y)) (xs := ns) hm
          show decide _ = false
          exact decide_eq_false fun z => by simp [z] at hne
    · cases e
  · cases e
end
@[simp] theorem ty_list (ds : List D) : tyD "list" (.list ds) = true := rfl
end DL
end

section
namespace DL
open PySem PySem.Spec PyProof.Rows L2 TL
/-! while: one turn, the end; common beginnings of two texts -/
theorem while_go {t : Rho → R Bool} {s : Rho → SR} {r r1 r2 : Rho} (h : t r = .ok true r1) (e : s r1 = .nx r2) : sWhile t s r = sWhile t s r2 := by
  rw [sWhile_eq, h, toS_ok, if_pos rfl, e]
theorem while_end {t : Rho → R Bool} {s : Rho → SR} {r r1 : Rho} (h : t r = .ok false r1) : sWhile t s r = .nx r1 := by
  rw [sWhile_eq, h, toS_ok, if_neg (by decide)]
/-- a while that ends: J by a measure -/
theorem while_inv {t : Rho → R Bool} {s : Rho → SR} (J : Nat → Rho → Prop) (B : Rho → Prop) (h : ∀ n r, J n r → (∃ r1, t r = .ok false r1 ∧ B r1) ∨ ∃ r1 r2 m, t r = .ok true r1 ∧ s r1 = .nx r2 ∧ m < n ∧ J m r2) : ∀ n r, J n r → ∃ r', sWhile t s r = .nx r' ∧ B r' := by
  intro n
  induction n using Nat.strongRecOn with
  | ind n ih =>
    intro r j
    rcases h n r j with ⟨r1, e, b⟩ | ⟨r1, r2, m, e1, e2, hm, j2⟩
    · exact ⟨r1, while_end e, b⟩
    · obtain ⟨r', e', b⟩ := ih m hm r2 j2
      exact ⟨r', (while_go e1 e2).trans e', b⟩
/-- how many signs two texts begin with together -/
def lcp : List Nat → List Nat → Nat
  | a :: as, b :: bs => if a = b then lcp as bs + 1 else 0
  | _, _ => 0
theorem lcp_le : ∀ a b : List Nat, lcp a b ≤ a.length ∧ lcp a b ≤ b.length
  | [], b => ⟨Nat.le_refl _, by simp [lcp]⟩
  | _ :: _, [] => ⟨by simp [lcp], Nat.le_refl _⟩
  | x :: as, y :: bs => by
    have := lcp_le as bs
    unfold lcp
    split <;> simp <;> omega
theorem lcp_in : ∀ (a b : List Nat) (n : Nat), n < lcp a b → a.getD n 0 = b.getD n 0
  | [], _, n, h => by simp [lcp] at h
  | _ :: _, [], n, h => by simp [lcp] at h
  | x :: as, y :: bs, n, h => by
    unfold lcp at h
    split at h
    · rename_i e
      cases n with
      | zero => simpa using e
      | succ n => simpa using lcp_in as bs n (by omega)
    · omega
theorem lcp_out : ∀ (a b : List Nat), lcp a b < a.length → lcp a b < b.length → a.getD (lcp a b) 0 ≠ b.getD (lcp a b) 0
  | [], _, h, _ => by simp at h
  | _ :: _, [], _, h => by simp at h
  | x :: as, y :: bs, h, h' => by
    unfold lcp at h h' ⊢
    by_cases e : x = y
    · rw [if_pos e] at h h' ⊢
      simp only [List.length_cons] at h h'
      simpa using lcp_out as bs (by omega) (by omega)
    · rw [if_neg e]
      simpa using e
theorem lcp_take : ∀ a b : List Nat, a.take (lcp a b) = b.take (lcp a b)
  | [], b => by simp [lcp]
  | _ :: _, [] => by simp [lcp]
  | x :: as, y :: bs => by
    unfold lcp
    by_cases e : x = y
    · rw [if_pos e, List.take_succ_cons, List.take_succ_cons, e, lcp_take as bs]
    · rw [if_neg e]; simp
theorem lcp_self : ∀ a : List Nat, lcp a a = a.length
  | [] => rfl
  | x :: as => by unfold lcp; rw [if_pos rfl, lcp_self as]; rfl
theorem lcp_app : ∀ (p a b : List Nat), lcp (p ++ a) (p ++ b) = p.length + lcp a b
  | [], a, b => by simp
  | x :: p, a, b => by
    show (if x = x then lcp (p ++ a) (p ++ b) + 1 else 0) = _
    rw [if_pos rfl, lcp_app p a b, List.length_cons]; omega
theorem lcp_comm : ∀ a b : List Nat, lcp a b = lcp b a
  | [], [] => rfl
  | [], _ :: _ => rfl
  | _ :: _, [] => rfl
  | x :: as, y :: bs => by
    unfold lcp
    by_cases e : x = y
    · rw [if_pos e, if_pos e.symm, lcp_comm as bs]
    · rw [if_neg e, if_neg fun z => e z.symm]
/-- the common beginning -/
def cmn (a b : List Nat) : List Nat := a.take (lcp a b)
/-- what is left of two texts, or none -/
def restL (a b : List Nat) : Option (List Nat × List Nat) := if lcp a b < min a.length b.length then none else some (a.drop (lcp a b), b.drop (lcp a b))
theorem restL_len {a b : List Nat} {p : List Nat × List Nat} (h : restL a b = some p) : p.1.length ≤ a.length ∧ p.2.length ≤ b.length := by
  unfold restL at h
  split at h
  · cases h
  · cases h
    simp
def restD : Option (List Nat × List Nat) → D
  | none => .none
  | some p => .tuple [lst p.1, lst p.2]
theorem restL_none {a b : List Nat} (h : restL a b = none) : lcp a b < a.length ∧ lcp a b < b.length := by
  unfold restL at h
  split at h
  · omega
  · cases h
theorem restL_some {a b : List Nat} {p : List Nat × List Nat} (h : restL a b = some p) : a = cmn a b ++ p.1 ∧ b = cmn a b ++ p.2 ∧ (p.1 = [] ∨ p.2 = []) := by
  unfold restL at h
  split at h
  · cases h
  · rename_i hn
    cases h
    have h1 := lcp_le a b
    refine ⟨(List.take_append_drop _ _).symm, ?_, ?_⟩
    · show b = a.take _ ++ _
      rw [lcp_take]; exact (List.take_append_drop _ _).symm
    · by_cases q : lcp a b = a.length
      · exact .inl (List.drop_eq_nil_of_le (by omega))
      · exact .inr (List.drop_eq_nil_of_le (by omega))
theorem dEq_sgn (a b : Nat) : dEq (sgn a) (sgn b) = some (.bool (decide (a = b))) := by
  have := dEq_l [a] [b]
  rw [show decide (([a] : List Nat) = [b]) = decide (a = b) by simp] at this
  exact this
theorem dNe_sgn (a b : Nat) : dNe (sgn a) (sgn b) = some (.bool (!decide (a = b))) := dNe_of (dEq_sgn a b)
theorem cMin_nat (a b : Nat) : cMin [.int (a : Int), .int (b : Int)] = some (.int ((min a b : Nat) : Int)) := by
  show some (PyData.int (if (b : Int) < a then (b : Int) else a)) = _
  congr 2
  by_cases h : (b : Int) < a
  · rw [if_pos h]; omega
  · rw [if_neg h]; omega
end DL
end

section
namespace DL
open PySem PySem.Spec PyProof.Rows L2 TL
/-! lists of texts, ordered by beginnings -/
theorem cmn_left (a b : List Nat) : cmn a b <+: a := List.take_prefix _ _
theorem cmn_right (a b : List Nat) : cmn a b <+: b := by unfold cmn; rw [lcp_take]; exact List.take_prefix _ _
theorem cmn_max {p a b : List Nat} (ha : p <+: a) (hb : p <+: b) : p <+: cmn a b := by
  obtain ⟨x, rfl⟩ := ha
  obtain ⟨y, rfl⟩ := hb
  unfold cmn
  rw [lcp_app, List.take_length_add_append]
  exact List.prefix_append _ _
theorem cmn_comm (a b : List Nat) : cmn a b = cmn b a := by unfold cmn; rw [lcp_take, lcp_comm]
theorem pre_anti {a b : List Nat} (h : a <+: b) (h' : b <+: a) : a = b := h.eq_of_length_le h'.length_le
def LeL : List (List Nat) → List (List Nat) → Prop
  | [], [] => True
  | a :: u, b :: v => a <+: b ∧ LeL u v
  | _, _ => False
theorem LeL.refl : ∀ u, LeL u u
  | [] => trivial
  | _ :: u => ⟨List.prefix_rfl, LeL.refl u⟩
theorem LeL.trans : ∀ {u v w}, LeL u v → LeL v w → LeL u w
  | [], [], [], _, _ => trivial
  | _ :: _, _ :: _, _ :: _, ⟨a, b⟩, ⟨c, d⟩ => ⟨a.trans c, LeL.trans b d⟩
  | [], _ :: _, _, h, _ => h.elim
  | _ :: _, [], _, h, _ => h.elim
  | [], [], _ :: _, _, h => h.elim
  | _ :: _, _ :: _, [], _, h => h.elim
theorem LeL.anti : ∀ {u v}, LeL u v → LeL v u → u = v
  | [], [], _, _ => rfl
  | _ :: _, _ :: _, ⟨a, b⟩, ⟨c, d⟩ => by rw [pre_anti a c, LeL.anti b d]
  | [], _ :: _, h, _ => h.elim
  | _ :: _, [], h, _ => h.elim
theorem LeL.len : ∀ {u v}, LeL u v → u.length = v.length
  | [], [], _ => rfl
  | _ :: _, _ :: _, h => congrArg Nat.succ (LeL.len h.2)
  | [], _ :: _, h => h.elim
  | _ :: _, [], h => h.elim
theorem LeL.get : ∀ {u v} (s : Nat), LeL u v → u.getD s [] <+: v.getD s []
  | [], [], _, _ => List.prefix_rfl
  | _ :: _, _ :: _, 0, h => h.1
  | _ :: u, _ :: v, s + 1, h => by simpa using LeL.get s h.2
  | [], _ :: _, _, h => h.elim
  | _ :: _, [], _, h => h.elim
theorem LeL.set : ∀ {v : List (List Nat)} {s : Nat} {b : List Nat}, b <+: v.getD s [] → LeL (v.set s b) v
  | [], _, _, _ => trivial
  | _ :: v, 0, _, h => ⟨h, LeL.refl v⟩
  | a :: v, s + 1, b, h => ⟨List.prefix_rfl, LeL.set (by simpa using h)⟩
theorem LeL.setR : ∀ {u v : List (List Nat)} {s : Nat} {b : List Nat}, LeL u v → u.getD s [] <+: b → LeL u (v.set s b)
  | [], [], _, _, _, _ => trivial
  | _ :: _, _ :: _, 0, _, h, q => ⟨q, h.2⟩
  | a :: u, c :: v, s + 1, b, h, q => ⟨h.1, LeL.setR h.2 (by simpa using q)⟩
  | [], _ :: _, _, _, h, _ => h.elim
  | _ :: _, [], _, _, h, _ => h.elim
def tot (u : List (List Nat)) : Nat := (u.map List.length).sum
theorem LeL.tot : ∀ {u v}, LeL u v → DL.tot u ≤ DL.tot v
  | [], [], _ => Nat.le_refl _
  | _ :: u, _ :: v, h => by
    have h1 := h.1.length_le
    have h2 := LeL.tot h.2
    unfold DL.tot at h2 ⊢
    simp only [List.map_cons, List.sum_cons]; omega
  | [], _ :: _, h => h.elim
  | _ :: _, [], h => h.elim
theorem LeL.tot_lt : ∀ {u v}, LeL u v → u ≠ v → DL.tot u < DL.tot v
  | [], [], _, n => absurd rfl n
  | a :: u, b :: v, h, n => by
    have h1 := h.1.length_le
    have h2 := LeL.tot h.2
    by_cases e : a = b
    · have := LeL.tot_lt h.2 fun z => n (by rw [e, z])
      unfold DL.tot at this ⊢
      simp only [List.map_cons, List.sum_cons]; omega
    · have : a.length < b.length := Nat.lt_of_le_of_ne h1 fun z => e (h.1.eq_of_length z)
      unfold DL.tot at h2 ⊢
      simp only [List.map_cons, List.sum_cons]; omega
  | [], _ :: _, h, _ => h.elim
  | _ :: _, [], h, _ => h.elim
theorem tot_bound : ∀ (u : List (List Nat)) (B : Nat), (∀ l ∈ u, l.length ≤ B) → DL.tot u ≤ u.length * B
  | [], _, _ => Nat.zero_le _
  | a :: u, B, h => by
    have h1 := h a List.mem_cons_self
    have h2 := tot_bound u B fun l hl => h l (List.mem_cons_of_mem _ hl)
    unfold DL.tot at h2 ⊢
    simp only [List.map_cons, List.sum_cons, List.length_cons, Nat.add_mul]; omega
theorem LeL.all {P : List Nat → Prop} (hP : ∀ a b, a <+: b → P b → P a) : ∀ {u v}, LeL u v → (∀ l ∈ v, P l) → ∀ l ∈ u, P l
  | [], [], _, _, _, h => nomatch h
  | a :: u, b :: v, h, q, l, hl => by
    rcases List.mem_cons.mp hl with rfl | hl
    · exact hP _ _ h.1 (q b List.mem_cons_self)
    · exact LeL.all hP h.2 (fun x hx => q x (List.mem_cons_of_mem _ hx)) l hl
  | [], _ :: _, h, _, _, _ => h.elim
  | _ :: _, [], h, _, _, _ => h.elim
theorem set_getD {v : List (List Nat)} {s : Nat} : v.set s (v.getD s []) = v := by
  by_cases h : s < v.length
  · rw [getD_lt h, List.set_getElem_self]
  · rw [List.set_eq_of_length_le (by omega)]
theorem dEq_texts {u v : List (List Nat)} (hu : ∀ l ∈ u, l.length ≤ 10000 ∧ ∀ c ∈ l, c < 128) (hv : ∀ l ∈ v, l.length ≤ 10000 ∧ ∀ c ∈ l, c < 128) (n : Nat) (h1 : u.length ≤ n) (h2 : v.length ≤ n) : dEq (.list (u.map lst)) (.list (v.map lst)) = some (.bool (decide (u = v))) := by
  have fi : ∀ w : List (List Nat), (∀ l ∈ w, l.length ≤ 10000 ∧ ∀ c ∈ l, c < 128) → w.length ≤ n → Fine 1 (n * 10001) (.list (w.map lst)) := fun w hw hl => by
    have := fine_list (n := 0) (w := 10000) (ds := w.map lst) (fun d hd => by
      obtain ⟨p, hp, rfl⟩ := List.mem_map.mp hd
      exact (fine_lst (hw p hp).2).mono (Nat.le_refl _) (hw p hp).1)
    rw [List.length_map] at this
    exact this.mono (Nat.le_refl _) (Nat.mul_le_mul_right _ hl)
  obtain ⟨b, e, h⟩ := dEq_fine (fi u hu h1) (fi v hv h2) (by omega) (nobool_map lst (fun _ => rfl) u) (nobool_map lst (fun _ => rfl) v)
  rw [e]
  congr 2
  rw [Bool.eq_iff_iff, decide_eq_true_eq, h]
  exact ⟨fun z => map_inj (fun _ _ => lst_inj) (PyData.list.inj z), fun z => by rw [z]⟩
theorem repr_texts (S : List (List Nat)) (n : Nat) (hn : n ≤ 90) (h : S.length ≤ n) (hs : ∀ p ∈ S, p.length ≤ 10000 ∧ ∀ c ∈ p, c < 128) : ∃ z, cRepr [.list (S.map lst)] = some (.str z) := by
  have hf := fine_list (n := 0) (w := 10000) (ds := S.map lst) (fun d hd => by
    obtain ⟨p, hp, rfl⟩ := List.mem_map.mp hd
    exact (fine_lst (hs p hp).2).mono (Nat.le_refl _) (hs p hp).1)
  rw [List.length_map] at hf
  refine ⟨_, fine_repr (hf.mono (Nat.le_refl _) (Nat.mul_le_mul_right _ h)) (by omega) ?_⟩
  have : n * (10000 + 1) ≤ 90 * 10001 := Nat.mul_le_mul_right _ hn
  omega
end DL
end

section
set_option maxHeartbeats 1000000
namespace DL
open PySem PySem.Spec PyProof.Rows L2
/-! ## dicts of one's own: what is there, by data -/
section
variable {X : Cx} {pins : List (Addr × Obj)} {σ : L2.St} {H M : Hp} {s : Shared} {a : Addr} {A : Around} {E : Value → Shared → Prop}
mutual
theorem Rep.key (I : Inv X pins σ H s) : ∀ {v : V} {d : D} {u : Value} {k : NestedKey}, Rep X.K H v d → RelV v u → keyOf d = some k → NestedIs s.heap k u
  | _, _, u, k, .non, r, e => by
    cases e
    obtain rfl : u = Value.none := r
    exact .none
  | _, _, u, k, .bl b, r, e => by cases e
  | _, _, u, k, .int i, r, e => by
    cases e
    obtain ⟨t, rfl⟩ := (show ∃ t, u = Value.int i t from r)
    exact .int i t
  | _, _, u, k, .str x, r, e => by
    cases e
    obtain ⟨t, rfl⟩ := (show ∃ t, u = Value.str x t from r)
    exact .text x t
  | _, _, u, k, .lst h q, r, e => by cases e
  | _, _, u, k, .tup (a := a) (xs := xs) (ds := ds) h q, r, e => by
    have e : (keysOf ds).map NestedKey.tup = some k := e
    obtain ⟨ks, ek, rfl⟩ := Option.map_eq_some_iff.mp e
    obtain rfl : u = Value.ref a := r
    obtain ⟨its, rv, ⟨o, h1, h2, n, h3⟩, _⟩ := I.tuple h
    exact .tup h1 h2 h3 (RepAll.keys I q (by simpa using rv) ek)
theorem RepAll.keys (I : Inv X pins σ H s) : ∀ {vs : List V} {ds : List D} {us : List Value} {ks : List NestedKey}, RepAll X.K H vs ds → Vals vs us → keysOf ds = some ks → NestedAll s.heap ks us
  | _, _, us, ks, .nil, r, e => by
    cases e
    cases r
    exact .nil
  | _, _, us, ks, .cons (d := d) (ds := ds) p q, r, e => by
    have e : ((keyOf d).bind fun k => (keysOf ds).map (k :: ·)) = some ks := e
    obtain ⟨k, e1, e2⟩ := Option.bind_eq_some_iff.mp e
    obtain ⟨ks', e3, rfl⟩ := Option.map_eq_some_iff.mp e2
    cases r with
    | cons r1 r2 => exact .cons (Rep.key I p r1 e1) (RepAll.keys I q r2 e3)
end
/-! data -/
def keyEqD (a b : D) : Bool := match keyOf a, keyOf b with
  | some x, some y => decide (x = y)
  | _, _ => false
/-- which things may be keys: ints and texts, or tuples -/
def keyFit : Bool → D → Bool
  | false, .int _ => true
  | false, .str _ => true
  | true, .tuple ds => match keysOf ds with
    | some ks => decide ((NestedKey.tup ks).depth ≤ 8)
    | none => false
  | _, _ => false
def valD : List (D × D) → D → Option D
  | [], _ => none
  | p :: l, q => if keyEqD p.1 q = true then some p.2 else valD l q
def hasD (l : List (D × D)) (q : D) : Bool := l.any fun p => keyEqD p.1 q
def putD (l : List (D × D)) (k v : D) : List (D × D) := if hasD l k = true then l.map (fun p => if keyEqD p.1 k = true then (p.1, v) else p) else l ++ [(k, v)]
theorem valD_has (l : List (D × D)) (q : D) : hasD l q = (valD l q).isSome := by
  induction l with
  | nil => rfl
  | cons p l ih =>
    unfold hasD at ih ⊢
    unfold valD
    rw [List.any_cons, ih]
    by_cases h : keyEqD p.1 q = true
    · rw [h]; rfl
    · rw [if_neg h, eq_false_of_ne_true h]; rfl
theorem putD_len (l : List (D × D)) (k v : D) : (putD l k v).length ≤ l.length + 1 := by
  unfold putD
  split <;> simp
/-- what stands for a dict: n tells the kind -/
def DRepO (n : Bool) (w : World) (K : PySem.W.Frag) (M : Hp) (a : Addr) (o : HO) (ds : List (D × D)) : Prop := match n with
  | false => ∃ kvs, o = .dK kvs ∧ RepKV K M kvs ds
  | true => ∃ xs, o = dnO w a xs ∧ RepNV K M xs ds
theorem DRepO.mono {n : Bool} {w : World} {K : PySem.W.Frag} {M M' : Hp} {a : Addr} {o : HO} {ds : List (D × D)} (h : DRepO n w K M a o ds) (s : Same M M') : DRepO n w K M' a o ds := by
  cases n with
  | false => obtain ⟨x, e, r⟩ := h; exact ⟨x, e, r.mono s⟩
  | true => obtain ⟨x, e, r⟩ := h; exact ⟨x, e, r.mono s⟩
theorem DRepO.mut {n : Bool} {w : World} {K : PySem.W.Frag} {M : Hp} {a : Addr} {o : HO} {ds : List (D × D)} (h : DRepO n w K M a o ds) : Mut (some o) := by
  cases n with
  | false => obtain ⟨x, rfl, r⟩ := h; exact True.intro
  | true => obtain ⟨x, rfl, r⟩ := h; exact True.intro
/-! keys and texts -/
theorem kD_eq (a b : Key) : keyEqD (kD a) (kD b) = decide (a = b) := by
  cases a <;> cases b <;> simp [keyEqD, kD, keyOf]
theorem RepKV.len {K : PySem.W.Frag} : ∀ {l : List (Key × V)} {m : List (D × D)}, RepKV K M l m → l.length = m.length
  | _, _, .nil => rfl
  | _, _, .cons _ t => congrArg Nat.succ (RepKV.len t)
theorem RepNV.len {K : PySem.W.Frag} : ∀ {l : List (NestedKey × Addr × V)} {m : List (D × D)}, RepNV K M l m → l.length = m.length
  | _, _, .nil => rfl
  | _, _, .cons _ _ _ _ t => congrArg Nat.succ (RepNV.len t)
theorem RepKV.val {K : PySem.W.Frag} (k : Key) : ∀ {l : List (Key × V)} {m : List (D × D)}, RepKV K M l m → (valV l k = none ∧ valD m (kD k) = none) ∨ ∃ v d, valV l k = some v ∧ valD m (kD k) = some d ∧ Rep K M v d
  | _, _, .nil => .inl ⟨rfl, rfl⟩
  | _, _, .cons (k := k') (v := v) (d := d) (l := l) (m := m) r t => by
    by_cases e : k' = k
    · subst e
      exact .inr ⟨v, d, valV_pos rfl, by unfold valD; rw [if_pos (by rw [kD_eq]; exact decide_eq_true rfl)], r⟩
    · have e2 : valD ((kD k', d) :: m) (kD k) = valD m (kD k) := by
        show (if keyEqD (kD k') (kD k) = true then some d else valD m (kD k)) = _
        rw [if_neg (by rw [kD_eq, decide_eq_false e]; decide)]
      rw [valV_neg e, e2]
      exact RepKV.val k t
theorem RepKV.has {K : PySem.W.Frag} (k : Key) {l : List (Key × V)} {m : List (D × D)} (r : RepKV K M l m) : hasD m (kD k) = (valV l k).isSome := by
  rw [valD_has]
  rcases r.val k with ⟨h1, h2⟩ | ⟨v, d, h1, h2, _⟩ <;> rw [h1, h2] <;> rfl
theorem RepKV.app {K : PySem.W.Frag} {k : Key} {v : V} {d : D} (r : Rep K M v d) : ∀ {l : List (Key × V)} {m : List (D × D)}, RepKV K M l m → RepKV K M (l ++ [(k, v)]) (m ++ [(kD k, d)])
  | _, _, .nil => .cons r .nil
  | _, _, .cons a t => .cons a (RepKV.app r t)
theorem RepKV.repl {K : PySem.W.Frag} {k : Key} {v : V} {d : D} (r : Rep K M v d) : ∀ {l : List (Key × V)} {m : List (D × D)}, RepKV K M l m → RepKV K M (l.map fun kv => if kv.1 = k then (kv.1, v) else kv) (m.map fun p => if keyEqD p.1 (kD k) = true then (p.1, d) else p)
  | _, _, .nil => .nil
  | _, _, .cons (k := k') a t => by
    rw [List.map_cons, List.map_cons]
    by_cases e : k' = k
    · rw [if_pos e, if_pos (by rw [kD_eq]; exact decide_eq_true e)]
      exact .cons r (RepKV.repl r t)
    · rw [if_neg e, if_neg (by rw [kD_eq, decide_eq_false e]; decide)]
      exact .cons a (RepKV.repl r t)
theorem RepKV.put {K : PySem.W.Frag} {k : Key} {v : V} {d : D} (r : Rep K M v d) {l : List (Key × V)} {m : List (D × D)} (h : RepKV K M l m) : RepKV K M (putK l k v) (putD m (kD k) d) := by
  unfold putK putD
  rw [h.has k, ← valV_any]
  split
  · exact h.repl r
  · exact h.app r
/-! tuples as keys -/
def atN (xs : List (NestedKey × Addr × V)) (k : NestedKey) : Option V := (xs.find? fun x => decide (x.1 = k)).map (·.2.2)
def putN (xs : List (NestedKey × Addr × V)) (k : NestedKey) (a : Addr) (v : V) : List (NestedKey × Addr × V) := if (atN xs k).isSome = true then xs.map (fun x => if x.1 = k then (x.1, x.2.1, v) else x) else xs ++ [(k, a, v)]
abbrev PN : List (NestedKey × Addr × V) → List (NestedKey × Addr × Value) → Prop := Paired fun p q => p.1 = q.1 ∧ p.2.1 = q.2.1 ∧ RelV p.2.2 q.2.2
theorem PN.val (k : NestedKey) : ∀ {xs : List (NestedKey × Addr × V)} {ys : List (NestedKey × Addr × Value)}, PN xs ys → (atN xs k = none ∧ atKey ys k = none) ∨ ∃ v p, atN xs k = some v ∧ atKey ys k = some p ∧ RelV v p.2
  | _, _, .nil => .inl ⟨rfl, rfl⟩
  | x :: xs, y :: ys, .cons h t => by
    by_cases e : x.1 = k
    · have e' : y.1 = k := h.1 ▸ e
      refine .inr ⟨x.2.2, y.2, ?_, ?_, h.2.2⟩
      · simp [atN, List.find?_cons, e]
      · simp [atKey, List.find?_cons, e']
    · have e' : ¬ y.1 = k := h.1 ▸ e
      have e1 : atN (x :: xs) k = atN xs k := by simp [atN, List.find?_cons, e]
      have e2 : atKey (y :: ys) k = atKey ys k := by simp [atKey, List.find?_cons, e']
      rw [e1, e2]
      exact PN.val k t
theorem PN.app {k : NestedKey} {b : Addr} {v : V} {u : Value} (r : RelV v u) : ∀ {xs : List (NestedKey × Addr × V)} {ys : List (NestedKey × Addr × Value)}, PN xs ys → PN (xs ++ [(k, b, v)]) (ys ++ [(k, b, u)])
  | _, _, .nil => .cons ⟨rfl, rfl, r⟩ .nil
  | _ :: _, _ :: _, .cons h t => .cons h (PN.app r t)
theorem PN.repl {k : NestedKey} {v : V} {u : Value} (r : RelV v u) : ∀ {xs : List (NestedKey × Addr × V)} {ys : List (NestedKey × Addr × Value)}, PN xs ys → PN (xs.map fun x => if x.1 = k then (x.1, x.2.1, v) else x) (ys.map (putAt k u))
  | _, _, .nil => .nil
  | x :: xs, y :: ys, .cons h t => by
    rw [List.map_cons, List.map_cons]
    unfold putAt
    by_cases e : x.1 = k
    · rw [if_pos e, if_pos (h.1 ▸ e)]
      exact .cons ⟨h.1, h.2.1, r⟩ (PN.repl r t)
    · rw [if_neg e, if_neg (h.1 ▸ e)]
      exact .cons h (PN.repl r t)
theorem PN.put {k : NestedKey} {b : Addr} {v : V} {u : Value} (r : RelV v u) {xs : List (NestedKey × Addr × V)} {ys : List (NestedKey × Addr × Value)} (h : PN xs ys) : PN (putN xs k b v) (storedH ys k b u) := by
  unfold putN storedH
  rcases h.val k with ⟨h1, h2⟩ | ⟨_, _, h1, h2, _⟩
  · rw [h1, h2]; exact h.app r
  · rw [h1, h2]; exact h.repl r
theorem PN.keys : ∀ {xs : List (NestedKey × Addr × V)} {ys : List (NestedKey × Addr × Value)}, PN xs ys → xs.map (·.1) = ys.map (·.1)
  | _, _, .nil => rfl
  | _ :: _, _ :: _, .cons h t => by rw [List.map_cons, List.map_cons, h.1, PN.keys t]
theorem tupEq {ks ks' : List D} {k k' : List NestedKey} (h : keysOf ks = some k) (h' : keysOf ks' = some k') : keyEqD (.tuple ks) (.tuple ks') = decide (NestedKey.tup k = NestedKey.tup k') := by
  unfold keyEqD
  show (match (keysOf ks).map NestedKey.tup, (keysOf ks').map NestedKey.tup with | some x, some y => decide (x = y) | _, _ => false) = _
  rw [h, h']
  rfl
theorem RepNV.val {K : PySem.W.Frag} {q : List D} {k : List NestedKey} (hk : keysOf q = some k) : ∀ {l : List (NestedKey × Addr × V)} {m : List (D × D)}, RepNV K M l m → (atN l (.tup k) = none ∧ valD m (.tuple q) = none) ∨ ∃ v d, atN l (.tup k) = some v ∧ valD m (.tuple q) = some d ∧ Rep K M v d
  | _, _, .nil => .inl ⟨rfl, rfl⟩
  | _, _, .cons (k := k') (a := b) (v := v) (ks := ks) (d := d) (l := l) (m := m) r e1 e2 r2 t => by
    have te := tupEq e1 hk
    by_cases e : NestedKey.tup k' = NestedKey.tup k
    · refine .inr ⟨v, d, ?_, ?_, r2⟩
      · simp [atN, List.find?_cons, e]
      · unfold valD; rw [if_pos (by rw [te]; exact decide_eq_true e)]
    · have e1 : atN ((.tup k', b, v) :: l) (.tup k) = atN l (.tup k) := by simp [atN, List.find?_cons, e]
      have e2 : valD ((.tuple ks, d) :: m) (.tuple q) = valD m (.tuple q) := by
        show (if keyEqD (.tuple ks) (.tuple q) = true then some d else valD m (.tuple q)) = _
        rw [if_neg (by rw [te, decide_eq_false e]; decide)]
      rw [e1, e2]
      exact RepNV.val hk t
theorem RepNV.has {K : PySem.W.Frag} {q : List D} {k : List NestedKey} (hk : keysOf q = some k) {l : List (NestedKey × Addr × V)} {m : List (D × D)} (r : RepNV K M l m) : hasD m (.tuple q) = (atN l (.tup k)).isSome := by
  rw [valD_has]
  rcases r.val hk with ⟨h1, h2⟩ | ⟨v, d, h1, h2, _⟩ <;> rw [h1, h2] <;> rfl
theorem RepNV.app {K : PySem.W.Frag} {q : List D} {k : List NestedKey} {b : Addr} {v : V} {d : D} (hb : Rep K M (.ref b) (.tuple q)) (hk : keysOf q = some k) (h8 : (NestedKey.tup k).depth ≤ 8) (r : Rep K M v d) : ∀ {l : List (NestedKey × Addr × V)} {m : List (D × D)}, RepNV K M l m → RepNV K M (l ++ [(.tup k, b, v)]) (m ++ [(.tuple q, d)])
  | _, _, .nil => .cons hb hk h8 r .nil
  | _, _, .cons a b c d' t => .cons a b c d' (RepNV.app hb hk h8 r t)
theorem RepNV.repl {K : PySem.W.Frag} {q : List D} {k : List NestedKey} {v : V} {d : D} (hk : keysOf q = some k) (r : Rep K M v d) : ∀ {l : List (NestedKey × Addr × V)} {m : List (D × D)}, RepNV K M l m → RepNV K M (l.map fun x => if x.1 = .tup k then (x.1, x.2.1, v) else x) (m.map fun p => if keyEqD p.1 (.tuple q) = true then (p.1, d) else p)
  | _, _, .nil => .nil
  | _, _, .cons (k := k') a e1 c d' t => by
    have te := tupEq e1 hk
    rw [List.map_cons, List.map_cons]
    by_cases e : NestedKey.tup k' = NestedKey.tup k
    · rw [if_pos e, if_pos (by rw [te]; exact decide_eq_true e)]
      exact .cons a e1 c r (RepNV.repl hk r t)
    · rw [if_neg e, if_neg (by rw [te, decide_eq_false e]; decide)]
      exact .cons a e1 c d' (RepNV.repl hk r t)
theorem RepNV.put {K : PySem.W.Frag} {q : List D} {k : List NestedKey} {b : Addr} {v : V} {d : D} (hb : Rep K M (.ref b) (.tuple q)) (hk : keysOf q = some k) (h8 : (NestedKey.tup k).depth ≤ 8) (r : Rep K M v d) {l : List (NestedKey × Addr × V)} {m : List (D × D)} (h : RepNV K M l m) : RepNV K M (putN l (.tup k) b v) (putD m (.tuple q) d) := by
  unfold putN putD
  rw [h.has hk]
  split
  · exact h.repl hk r
  · exact h.app hb hk h8 r
/-! in the heap -/
theorem RepNV.is (I : Inv X pins σ H s) (sm : Same M H) : ∀ {xs : List (NestedKey × Addr × V)} {ds : List (D × D)} {ys : List (NestedKey × Addr × Value)}, RepNV X.K M xs ds → PN xs ys → ∀ y ∈ ys, (nestedKind X.prog X.w).is s.heap y.1 y.2.1
  | _, _, _, .nil, .nil => fun _ h => nomatch h
  | _, _, _ :: _, .cons (k := k) (a := b) (ks := ks) r e1 e2 r2 t, .cons h t2 => fun y hy => by
    rcases List.mem_cons.mp hy with rfl | hy
    · have hx : NestedIs s.heap (.tup k) (.ref b) := Rep.key I (r.mono sm) rfl (by show (keysOf ks).map _ = _; rw [e1]; rfl)
      rw [← h.1, ← h.2.1]
      exact ⟨hx, e2⟩
    · exact RepNV.is I sm t t2 y hy
theorem dn_of (I : Inv X pins σ H s) (sm : Same M H) {xs : List (NestedKey × Addr × V)} {ds : List (D × D)} (e : H a = some (dnO X.w a xs)) (r : RepNV X.K M xs ds) :
    xs.length ≤ sizeLine ∧ (a == sysModules) = false ∧ ∃ ys, PN xs ys ∧ s.heap.DictOfH (nestedKind X.prog X.w) a ys := by
  obtain ⟨⟨h1, h2, h3, ys, h4, o, es, ep, g1, g2, g3, g4⟩, _, _⟩ := (show ObjOk X.prog X.w H s.heap a (dnO X.w a xs) from I.hok a _ e)
  exact ⟨h1, h2, ys, h4, o, es, ep, g1, g2, g3, g4, r.is I sm h4, by rw [← PN.keys h4]; exact h3⟩
theorem dn_obj {h' : Heap} {H' : Hp} {xs : List (NestedKey × Addr × V)} {ys : List (NestedKey × Addr × Value)} (h1 : xs.length ≤ sizeLine) (h2 : (a == sysModules) = false) (h4 : PN xs ys) (hd : h'.DictOfH (nestedKind X.prog X.w) a ys) : ObjOk X.prog X.w H' h' a (dnO X.w a xs) := by
  obtain ⟨o, es, ep, g1, g2, g3, g4, g5, g6⟩ := hd
  refine ⟨⟨h1, h2, by rw [PN.keys h4]; exact g6, ys, h4, o, es, ep, g1, g2, g3, g4⟩, ⟨o, g1⟩, fun k1 k2 ⟨q1, q2, q3, zs, q4, o', es', ep', p1, p2, p3, p4⟩ k => ⟨q1, q2, q3, zs, q4, o', es', ep', k _ p1, p2, p3, p4⟩⟩
theorem fitK {kd : D} (h : keyFit false kd = true) : ∃ k : Key, kd = kD k := by
  cases kd <;> first | (cases h; done) | skip
  · exact ⟨.inl _, rfl⟩
  · exact ⟨.inr _, rfl⟩
theorem fitN {kd : D} (h : keyFit true kd = true) : ∃ ks k, kd = .tuple ks ∧ keysOf ks = some k ∧ (NestedKey.tup k).depth ≤ 8 := by
  cases kd <;> first | (cases h; done) | skip
  rename_i ks
  have h : (match keysOf ks with | some k => decide ((NestedKey.tup k).depth ≤ 8) | none => false) = true := h
  cases e : keysOf ks with
  | none => rw [e] at h; cases h
  | some k => rw [e] at h; exact ⟨ks, k, rfl, e, of_decide_eq_true h⟩
theorem Rep.kV {K : PySem.W.Frag} {v : V} {k : Key} (h : Rep K M v (kD k)) : v = L2.kV k := by
  cases k with
  | inl i => exact h.intI
  | inr x => exact h.strI
/-- d[k] -/
theorem dd_get {n : Bool} {o : HO} {ds : List (D × D)} {y : V} {kd d : D} {u : Value} {Q : Value → Shared → Prop} (hu : A.units + 9 < cLine) (I : Inv X pins σ H s) (sm : Same M H) (e : H a = some o) (g : DRepO n X.w X.K M a o ds) (rk : Rep X.K M y kd) (ry : RelV y u) (hf : keyFit n kd = true) (hv : valD ds kd = some d)
    (h : ∀ v w' s', Inv X pins σ H s' → RelV v w' → Rep X.K M v d → Q w' s') : wpAny (model X.prog X.w) A (getItem (.ref a) u) Q E s := by
  cases n with
  | false =>
    obtain ⟨kvs, rfl, r⟩ := g
    obtain ⟨k, rfl⟩ := fitK hf
    obtain rfl := rk.kV
    rcases r.val k with ⟨_, h2⟩ | ⟨v, d', h1, h2, h3⟩
    · rw [h2] at hv; cases hv
    · rw [h2] at hv; cases hv
      have g := DGet.k (k := k) e
      rw [h1] at g
      exact d_getItem (by omega) I g ry fun w' s' I' rw' => h v w' s' I' rw' h3
  | true =>
    obtain ⟨xs, rfl, r⟩ := g
    obtain ⟨ks, k, rfl, ek, e8⟩ := fitN hf
    obtain ⟨b, zs, rfl, _⟩ := rk.tupI
    cases (show u = Value.ref b from ry)
    obtain ⟨z, hd, ys, pn, dd⟩ := dn_of I sm e r
    have hk : (nestedKind X.prog X.w).is s.heap (.tup k) b := ⟨Rep.key I (rk.mono sm) rfl (by show (keysOf ks).map _ = _; rw [ek]; rfl), e8⟩
    rcases r.val ek with ⟨_, h2⟩ | ⟨v, d', h1, h2, h3⟩
    · rw [h2] at hv; cases hv
    · rw [h2] at hv; cases hv
      rcases pn.val (.tup k) with ⟨q1, _⟩ | ⟨v', p, q1, q2, q3⟩
      · rw [q1] at h1; cases h1
      · rw [q1] at h1; cases h1
        exact wpAny_getItem_heap (knd := nestedKind X.prog X.w) (show A.in1.units + 8 < cLine by rw [Around.in1_units]; omega) hk dd q2 (h _ _ _ (I.tok _) q3 h3)
/-- k in d -/
theorem dd_in {n : Bool} {o : HO} {ds : List (D × D)} {y : V} {kd : D} {u : Value} {Q : Value → Shared → Prop} (hu : A.units + 9 < cLine) (I : Inv X pins σ H s) (sm : Same M H) (e : H a = some o) (g : DRepO n X.w X.K M a o ds) (rk : Rep X.K M y kd) (ry : RelV y u) (hf : keyFit n kd = true)
    (h : ∀ s', Inv X pins σ H s' → Q (.bool (hasD ds kd)) s') : wpAny (model X.prog X.w) A (compareOp .In u (.ref a)) Q E s := by
  cases n with
  | false =>
    obtain ⟨kvs, rfl, r⟩ := g
    obtain ⟨k, rfl⟩ := fitK hf
    obtain rfl := rk.kV
    rw [r.has k] at h
    exact d_in (by omega) I (DGet.k (k := k) e) ry h
  | true =>
    obtain ⟨xs, rfl, r⟩ := g
    obtain ⟨ks, k, rfl, ek, e8⟩ := fitN hf
    obtain ⟨b, zs, rfl, _⟩ := rk.tupI
    cases (show u = Value.ref b from ry)
    obtain ⟨z, hd, ys, pn, dd⟩ := dn_of I sm e r
    have hk : (nestedKind X.prog X.w).is s.heap (.tup k) b := ⟨Rep.key I (rk.mono sm) rfl (by show (keysOf ks).map _ = _; rw [ek]; rfl), e8⟩
    rw [r.has ek] at h
    refine wpAny_in_heap (knd := nestedKind X.prog X.w) (show A.in1.units + 8 < cLine by rw [Around.in1_units]; omega) hk hd dd ?_
    have : (atKey ys (NestedKey.tup k)).isSome = (atN xs (NestedKey.tup k)).isSome := by
      rcases pn.val (.tup k) with ⟨q1, q2⟩ | ⟨v', p, q1, q2, q3⟩ <;> rw [q1, q2] <;> rfl
    rw [this]
    exact h _ (I.tok _)
theorem dd_notIn {n : Bool} {o : HO} {ds : List (D × D)} {y : V} {kd : D} {u : Value} {Q : Value → Shared → Prop} (hu : A.units + 9 < cLine) (I : Inv X pins σ H s) (sm : Same M H) (e : H a = some o) (g : DRepO n X.w X.K M a o ds) (rk : Rep X.K M y kd) (ry : RelV y u) (hf : keyFit n kd = true)
    (h : ∀ s', Inv X pins σ H s' → Q (.bool (!hasD ds kd)) s') : wpAny (model X.prog X.w) A (compareOp .NotIn u (.ref a)) Q E s := by
  cases n with
  | false =>
    obtain ⟨kvs, rfl, r⟩ := g
    obtain ⟨k, rfl⟩ := fitK hf
    obtain rfl := rk.kV
    rw [r.has k] at h
    exact d_notIn (by omega) I (DGet.k (k := k) e) ry h
  | true =>
    obtain ⟨xs, rfl, r⟩ := g
    obtain ⟨ks, k, rfl, ek, e8⟩ := fitN hf
    obtain ⟨b, zs, rfl, _⟩ := rk.tupI
    cases (show u = Value.ref b from ry)
    obtain ⟨z, hd, ys, pn, dd⟩ := dn_of I sm e r
    have hk : (nestedKind X.prog X.w).is s.heap (.tup k) b := ⟨Rep.key I (rk.mono sm) rfl (by show (keysOf ks).map _ = _; rw [ek]; rfl), e8⟩
    rw [r.has ek] at h
    refine wpAny_notIn_heap (knd := nestedKind X.prog X.w) (show A.in1.units + 8 < cLine by rw [Around.in1_units]; omega) hk hd dd ?_
    have : (atKey ys (NestedKey.tup k)).isSome = (atN xs (NestedKey.tup k)).isSome := by
      rcases pn.val (.tup k) with ⟨q1, q2⟩ | ⟨v', p, q1, q2, q3⟩ <;> rw [q1, q2] <;> rfl
    rw [this]
    exact h _ (I.tok _)
/-- what a store makes, M: what is not owned -/
theorem dn_put (I : Inv X pins σ H s) {xs : List (NestedKey × Addr × V)} {b : Addr} {k : NestedKey} {v : V} {h' : Heap} {ys : List (NestedKey × Addr × Value)} (e : H a = some (dnO X.w a xs)) (hl : xs.length < sizeLine) (hd : (a == sysModules) = false) (pn : PN (putN xs k b v) ys) (dd : h'.DictOfH (nestedKind X.prog X.w) a ys) (hs : Heap.SameBut a s.heap h') (t : Nat) :
    Inv X pins σ (upd H a (dnO X.w a (putN xs k b v))) { s with heap := h', toks := t } := by
  have he : ∃ q, h'.get? a = some q := let ⟨q, _, _, hq, _⟩ := dd; ⟨q, hq⟩
  refine d_write I (by rw [e]; exact True.intro) hs he (dn_obj ?_ hd pn dd)
  unfold putN
  split
  · rw [List.length_map]; omega
  · rw [List.length_append, List.length_singleton]; omega
/-- d[k] = v -/
theorem dd_put {n : Bool} {o : HO} {ds : List (D × D)} {y v : V} {kd d : D} {u r : Value} {Q : Unit → Shared → Prop} (hu : A.units + 9 < cLine) (I : Inv X pins σ H s) (sm : Same M H) (e : H a = some o) (g : DRepO n X.w X.K M a o ds) (hl : ds.length < sizeLine) (rk : Rep X.K M y kd) (ry : RelV y u) (hf : keyFit n kd = true) (rd : Rep X.K M v d) (rv : RelV v r)
    (h : ∀ o' s', Inv X pins σ (upd H a o') s' → DRepO n X.w X.K M a o' (putD ds kd d) → Q () s') : wpAny (model X.prog X.w) A (setItem (.ref a) u r) Q E s := by
  cases n with
  | false =>
    obtain ⟨kvs, rfl, rr⟩ := g
    obtain ⟨k, rfl⟩ := fitK hf
    obtain rfl := rk.kV
    exact d_setItem (by omega) I (DPut.k (k := k) e (by rw [rr.len]; exact hl)) ry rv fun s' I' => h _ s' I' ⟨_, rfl, rr.put rd⟩
  | true =>
    obtain ⟨xs, rfl, rr⟩ := g
    obtain ⟨ks, k, rfl, ek, e8⟩ := fitN hf
    obtain ⟨b, zs, rfl, _⟩ := rk.tupI
    cases (show u = Value.ref b from ry)
    obtain ⟨z, hd, ys, pn, dd⟩ := dn_of I sm e rr
    have hk : (nestedKind X.prog X.w).is s.heap (.tup k) b := ⟨Rep.key I (rk.mono sm) rfl (by show (keysOf ks).map _ = _; rw [ek]; rfl), e8⟩
    refine wpAny_setItem_heap (knd := nestedKind X.prog X.w) (hsz := by rw [← Paired.length pn]; exact z) (show A.in1.units + 8 < cLine by rw [Around.in1_units]; omega) hk dd fun h' dd' hs => ?_
    exact h _ _ (dn_put I e (by rw [rr.len]; exact hl) hd (pn.put rv) dd' hs _) ⟨_, rfl, rr.put rk ek e8 rd⟩
end
end DL
end

section
set_option maxHeartbeats 1000000
namespace DL
open PySem PySem.Spec PyProof.Rows L2
/-! ## places: a slot, or a field of the instance in a slot -/
inductive Pth where
  | s (i : Nat)
  | f (i : Nat) (n : Str)
  deriving DecidableEq
def Pth.slot : Pth → Nat
  | .s i => i
  | .f i _ => i
def Fk.sh : Fk → Shp
  | .pur => .pur
  | .lst => .lst
  | .dk => .dk
  | .dn => .dn
def dkSh : Bool → Shp
  | false => .dk
  | true => .dn
/-- a field, by data -/
def fldD : List (D × D) → Str → Option D
  | [], _ => none
  | (.str m, d) :: l, n => if m = n then some d else fldD l n
  | _ :: l, n => fldD l n
def setFD : List (D × D) → Str → D → List (D × D)
  | [], n, v => [(.str n, v)]
  | (.str m, d) :: l, n, v => if m = n then (.str m, v) :: l else (.str m, d) :: setFD l n v
  | p :: l, n, v => p :: setFD l n v
def Pth.get (r : Rho) : Pth → Option D
  | .s i => (r[i]?).join
  | .f i n => match (r[i]?).join with
    | some (.dict ds) => fldD ds n
    | _ => none
def Pth.set (r : Rho) (v : D) : Pth → Rho
  | .s i => r.set i (some v)
  | .f i n => match (r[i]?).join with
    | some (.dict ds) => r.set i (some (.dict (setFD ds n v)))
    | _ => r
def shAt (ms : Ms) : Pth → Option Shp
  | .s i => some (ms i).sh
  | .f i n => match (ms i).sh with
    | .obj _ T => (T.lookup n).map Fk.sh
    | _ => none
/-- the class's facts, for a field -/
structure FOk (K : PySem.W.Frag) (C n : Str) : Prop where
  cl : Cls K (He.ga K C)
  na : NoAttr K (He.ga K C) n
def POk (K : PySem.W.Frag) (ms : Ms) : Pth → Prop
  | .s _ => True
  | .f i n => ∃ C T, (ms i).sh = .obj C T ∧ FOk K C n
def ValP (K : PySem.W.Frag) (σ : L2.St) (H : Hp) (v : V) : Pth → Prop
  | .s i => σ[i]? = some (some v)
  | .f i n => ∃ x C dx fs, σ[i]? = some (some (.ref x)) ∧ H x = some (.ins C dx fs) ∧ Cls K C ∧ NoAttr K C n ∧ fs.lookup n = some v
section
variable {w : World} {K : PySem.W.Frag} {M H H' : Hp} {ms : Ms} {σ : L2.St} {r : Rho} {O : Own} {G : Gh}
theorem RepF.toS {k : Fk} {v : V} {d : D} {A : List Addr} (h : RepF w K M H k v d A) : RepS w K M H k.sh v d A := by
  cases h with
  | pur h => exact .pur h
  | lst h r => exact .lst h r
  | dk h r => exact .dk h r
  | dn h r => exact .dn h r
theorem RepF.ofS {k : Fk} {v : V} {d : D} {A : List Addr} (h : RepS w K M H k.sh v d A) : RepF w K M H k v d A := by
  cases k <;> (cases h; constructor <;> assumption)
theorem RepS.dctI {n : Bool} {v : V} {d : D} {A : List Addr} (h : RepS w K M H (dkSh n) v d A) : ∃ a o ds, v = .ref a ∧ d = .dict ds ∧ A = [a] ∧ H a = some o ∧ DRepO n w K M a o ds := by
  cases n with
  | false =>
    cases h with
    | dk h r => exact ⟨_, _, _, rfl, rfl, rfl, h, _, rfl, r⟩
  | true =>
    cases h with
    | dn h r => exact ⟨_, _, _, rfl, rfl, rfl, h, _, rfl, r⟩
theorem DRepO.toS {n : Bool} {a : Addr} {o : HO} {ds : List (D × D)} (h : DRepO n w K M a o ds) (e : H a = some o) : RepS w K M H (dkSh n) (.ref a) (.dict ds) [a] := by
  cases n with
  | false => obtain ⟨x, rfl, r⟩ := h; exact .dk e r
  | true => obtain ⟨x, rfl, r⟩ := h; exact .dn e r
theorem RepS.objI {C : Str} {T : List (Str × Fk)} {v : V} {d : D} {A : List Addr} (h : RepS w K M H (.obj C T) v d A) : ∃ x dx fs ds B, v = .ref x ∧ d = .dict ds ∧ A = x :: B ∧ H x = some (.ins (He.ga K C) dx fs) ∧ RepFs w K M H T fs ds B ∧ x ∉ B := by
  cases h with
  | obj h r n => exact ⟨_, _, _, _, _, rfl, rfl, rfl, h, r, n⟩
/-- a field is found, and may be changed in place -/
theorem RepFs.at_ {T : List (Str × Fk)} {n : Str} : ∀ {fs : List (Str × V)} {ds : List (D × D)} {A : List Addr} {d : D}, RepFs w K M H T fs ds A → fldD ds n = some d → ∃ v k B, fs.lookup n = some v ∧ T.lookup n = some k ∧ RepF w K M H k v d B ∧ (∀ a ∈ B, a ∈ A) ∧
    ∀ H' d', (∀ b ∈ A, b ∉ B → ∀ o, H b = some o → H' b = some o) → RepF w K M H' k v d' B → RepFs w K M H' T fs (setFD ds n d') A
  | _, _, _, d, .cons (f := f) (k := k) (v := v) (d := d0) (A := A) (B := B) (fs := fs) (ds := ds) l h t nd, e => by
    by_cases q : f = n
    · subst q
      have e : (if f = f then some d0 else fldD ds f) = some d := e
      rw [if_pos rfl] at e
      cases e
      refine ⟨v, k, A, by simp [List.lookup], l, h, fun a ha => List.mem_append_left _ ha, fun H' d' hk hr => ?_⟩
      show RepFs w K M H' T ((f, v) :: fs) (if f = f then (.str f, d') :: ds else _) _
      rw [if_pos rfl]
      exact .cons l hr (t.mono (Same.refl M) fun a ha o z => hk a (List.mem_append_right _ ha) (fun z2 => nd a z2 ha) o z) nd
    · have e : (if f = n then some d0 else fldD ds n) = some d := e
      rw [if_neg q] at e
      obtain ⟨v', k', B', h1, h2, h3, h4, h5⟩ := RepFs.at_ t e
      have hb : (n == f) = false := by simpa using fun z => q z.symm
      refine ⟨v', k', B', by simp only [List.lookup, hb]; exact h1, h2, h3, fun a ha => List.mem_append_right _ (h4 a ha), fun H' d' hk hr => ?_⟩
      show RepFs w K M H' T ((f, v) :: fs) (if f = n then (.str f, d') :: ds else (.str f, d0) :: setFD ds n d') _
      rw [if_neg q]
      exact .cons l (h.mono (Same.refl M) fun a ha o z => hk a (List.mem_append_left _ ha) (fun z2 => nd a ha (h4 a z2)) o z) (h5 H' d' (fun b hb nb o z => hk b (List.mem_append_right _ hb) nb o z) hr) nd
theorem RepFs.mem {T : List (Str × Fk)} {n : Str} : ∀ {fs : List (Str × V)} {ds : List (D × D)} {A : List Addr}, RepFs w K M H T fs ds A → T.lookup n = none → fs.lookup n = none
  | _, _, _, .nil, _ => rfl
  | _, _, _, .cons (f := f) l h t nd, e => by
    have hb : (n == f) = false := by
      cases q : (n == f) with
      | false => rfl
      | true => rw [beq_iff_eq.mp q, l] at e; cases e
    simp only [List.lookup, hb]
    exact RepFs.mem t e
/-- a field gets another value; what it had is let go -/
theorem RepFs.put {T : List (Str × Fk)} {n : Str} {k : Fk} {v : V} {d : D} {B : List Addr} (hT : T.lookup n = some k) (hv : RepF w K M H k v d B) : ∀ {fs : List (Str × V)} {ds : List (D × D)} {A : List Addr}, RepFs w K M H T fs ds A → (∀ a ∈ B, a ∉ A) → ∃ A', RepFs w K M H T (putF n v fs) (setFD ds n d) A' ∧ ∀ a ∈ A', a ∈ A ∨ a ∈ B
  | _, _, _, .nil, _ => ⟨B ++ [], .cons hT hv .nil fun _ _ h => (nomatch h), fun a ha => .inr (by simpa using ha)⟩
  | _, _, _, .cons (f := f) (k := k0) (v := v0) (d := d0) (A := A) (B := B0) (fs := fs) (ds := ds) l h t nd, hd => by
    by_cases q : f = n
    · subst q
      refine ⟨B ++ B0, ?_, fun a ha => (List.mem_append.mp ha).elim .inr fun z => .inl (List.mem_append_right _ z)⟩
      show RepFs w K M H T (if f = f then (f, v) :: fs else _) (if f = f then (.str f, d) :: ds else _) _
      rw [if_pos rfl, if_pos rfl]
      exact .cons hT hv t fun a ha z => hd a ha (List.mem_append_right _ z)
    · obtain ⟨A', h1, h2⟩ := RepFs.put hT hv t fun a ha z => hd a ha (List.mem_append_right _ z)
      refine ⟨A ++ A', ?_, fun a ha => (List.mem_append.mp ha).elim (fun z => .inl (List.mem_append_left _ z)) fun z => (h2 a z).elim (fun z => .inl (List.mem_append_right _ z)) .inr⟩
      show RepFs w K M H T (if f = n then (f, v) :: fs else (f, v0) :: putF n v fs) (if f = n then (.str f, d) :: ds else (.str f, d0) :: setFD ds n d) _
      rw [if_neg q, if_neg q]
      refine .cons l h h1 fun a ha z => (h2 a z).elim (fun z => nd a ha z) fun z => hd a z (List.mem_append_left _ ha)
/-- what is owned becomes less or stays -/
theorem chg_sub {B A : List Addr} {i : Nat} (hA : ∀ b ∈ A, b ∈ O i ∨ b ∈ B) : ∀ b, Ow (updO O i A) G b → Ow O (GA B G) b := fun b z => by
  rcases z with g | ⟨j, hj⟩
  · exact .inl (.inr g)
  · by_cases q : j = i
    · subst q; rw [updO_same] at hj
      exact (hA b hj).elim (fun z => .inr ⟨j, z⟩) fun z => .inl (.inl z)
    · rw [updO_ne q] at hj; exact .inr ⟨j, hj⟩
theorem chg_sm {B A : List Addr} {i : Nat} {a : Addr} {o' : HO} (ha : a ∈ O i) (hA : ∀ b ∈ A, b ∈ O i ∨ b ∈ B) : Same (msk H (Ow O (GA B G))) (msk (upd H a o') (Ow (updO O i A) G)) := fun b u z => by
  obtain ⟨n, z⟩ := msk_some z
  refine msk_mk (fun q => n (chg_sub hA b q)) ?_
  rw [upd_ne (fun q => n (by rw [q]; exact .inr ⟨i, ha⟩))]
  exact z
/-- an object of one's own in slot i is changed: the object at a, which it owns; B: what it takes over -/
theorem Rel.wr {B : List Addr} (h : Rel w K ms σ H r O (GA B G)) (hB : ∀ b ∈ B, ¬ G b) {i : Nat} {a : Addr} {o' : HO} {d d' : D} {A : List Addr} (e : r[i]? = some (some d)) (ha : a ∈ O i) (hA : ∀ b ∈ A, b ∈ O i ∨ b ∈ B)
    (new : ∀ v, σ[i]? = some (some v) → RepS w K (msk (upd H a o') (Ow (updO O i A) G)) (upd H a o') (ms i).sh v d' A) : Rel w K ms σ (upd H a o') (r.set i (some d')) (updO O i A) G := by
  have hi : i < r.length := (List.getElem?_eq_some_iff.mp e).1
  have sm := chg_sm (H := H) (G := G) (o' := o') ha hA
  refine ⟨by rw [List.length_set]; exact h.len, fun j f he => ?_, fun j hj => ?_, fun b g => ?_, fun j k b hj hk => ?_, fun j b hj => ?_⟩
  · by_cases q : j = i
    · subst q
      rw [List.getElem?_set_self hi] at he
      cases he
      obtain ⟨v, e1, rs⟩ := h.slot j _ e
      refine ⟨v, e1, ?_⟩
      rw [updO_same]
      exact new v e1
    · rw [List.getElem?_set_ne (Ne.symm q)] at he
      obtain ⟨v, e1, rs⟩ := h.slot j f he
      refine ⟨v, e1, ?_⟩
      rw [updO_ne q]
      exact rs.mono sm fun b hb u z => by
        rw [upd_ne fun z2 => q (h.dj j i b hb (by rw [z2]; exact ha))]; exact z
  · by_cases q : j = i
    · subst q
      exact absurd (List.getElem?_set_self hi) (hj _)
    · rw [updO_ne q]
      exact h.emp j fun f he => hj f (by rw [List.getElem?_set_ne (Ne.symm q)]; exact he)
  · by_cases q : b = a
    · rw [q, upd_same]; exact fun z => nomatch z
    · rw [upd_ne q]; exact h.tr b (.inr g)
  · by_cases q : j = i
    · by_cases q2 : k = i
      · rw [q, q2]
      · subst q
        rw [updO_same] at hj
        rw [updO_ne q2] at hk
        rcases hA b hj with z | z
        · exact h.dj j k b z hk
        · exact absurd (.inl z) (h.dG k b hk)
    · rw [updO_ne q] at hj
      by_cases q2 : k = i
      · subst q2
        rw [updO_same] at hk
        rcases hA b hk with z | z
        · exact h.dj j k b hj z
        · exact absurd (.inl z) (h.dG j b hj)
      · rw [updO_ne q2] at hk
        exact h.dj j k b hj hk
  · by_cases q : j = i
    · subst q
      rw [updO_same] at hj
      rcases hA b hj with z | z
      · exact fun g => h.dG j b z (.inr g)
      · exact hB b z
    · rw [updO_ne q] at hj
      exact fun g => h.dG j b hj (.inr g)
/-- without anything taken over -/
theorem Rel.wr0 (h : Rel w K ms σ H r O G) {i : Nat} {a : Addr} {o' : HO} {d d' : D} {A : List Addr} (e : r[i]? = some (some d)) (ha : a ∈ O i) (hA : ∀ b ∈ A, b ∈ O i)
    (new : ∀ v, σ[i]? = some (some v) → RepS w K (msk (upd H a o') (Ow (updO O i A) G)) (upd H a o') (ms i).sh v d' A) : Rel w K ms σ (upd H a o') (r.set i (some d')) (updO O i A) G ∧ Ext H O G (upd H a o') (updO O i A) G := by
  have h' : Rel w K ms σ H r O (GA [] G) := by rw [ga_nil]; exact h
  refine ⟨h'.wr (B := []) (fun _ z => (nomatch z)) e ha (fun b z => .inl (hA b z)) new, ⟨?_, fun b g => ⟨g, upd_ne fun z => h.dG i a ha (z ▸ g)⟩⟩⟩
  have := chg_sm (B := []) (H := H) (G := G) (o' := o') ha (fun b z => .inl (hA b z)) (A := A)
  rw [ga_nil] at this
  exact this
/-- what stands at a place -/
theorem Rel.at_ (h : Rel w K ms σ H r O G) {p : Pth} {d : D} {sh : Shp} (hp : POk K ms p) (e : p.get r = some d) (hs : shAt ms p = some sh) : ∃ v B, ValP K σ H v p ∧ RepS w K (msk H (Ow O G)) H sh v d B ∧ (∀ a ∈ B, a ∈ O p.slot) := by
  cases p with
  | s i =>
    cases hs
    obtain ⟨v, e1, rs⟩ := h.slot i d (join_some e)
    exact ⟨v, _, e1, rs, fun a ha => ha⟩
  | f i n =>
    obtain ⟨C, T, hC, fo⟩ := hp
    have e : (match (r[i]?).join with | some (.dict ds) => fldD ds n | _ => none) = some d := e
    cases e0 : (r[i]?).join with
    | none => rw [e0] at e; cases e
    | some d0 =>
      rw [e0] at e
      cases d0 with
      | dict ds =>
        obtain ⟨v0, e1, rs⟩ := h.slot i _ (join_some e0)
        rw [hC] at rs
        obtain ⟨x, dx, fs, ds', B, rfl, ed, eA, hx, rf, nx⟩ := rs.objI
        cases ed
        obtain ⟨v, k, B', h1, h2, h3, h4, _⟩ := rf.at_ e
        have hs : (match (ms i).sh with | .obj _ T => (T.lookup n).map Fk.sh | _ => none) = some sh := hs
        rw [hC] at hs
        simp only at hs
        rw [h2] at hs
        cases hs
        exact ⟨v, B', ⟨x, _, dx, fs, e1, hx, fo.cl, fo.na, h1⟩, h3.toS, fun a ha => by show a ∈ O i; rw [eA]; exact List.mem_cons_of_mem _ (h4 a ha)⟩
      | _ => cases e
/-- a list or dict of one's own at a place is changed in place -/
theorem Rel.chgP (h : Rel w K ms σ H r O G) {p : Pth} {d d' : D} {sh : Shp} {a : Addr} {o' : HO} (hk : ∀ C T, sh ≠ .obj C T) (hp : POk K ms p) (e : p.get r = some d) (hs : shAt ms p = some sh) (hv : ValP K σ H (.ref a) p)
    (ht : ∃ d1, RepS w K (msk H (Ow O G)) H sh (.ref a) d1 [a]) (new : ∀ M', Same (msk H (Ow O G)) M' → RepS w K M' (upd H a o') sh (.ref a) d' [a]) : ∃ O', Rel w K ms σ (upd H a o') (p.set r d') O' G ∧ Ext H O G (upd H a o') O' G := by
  have one : ∀ {B : List Addr} {d1 : D}, RepS w K (msk H (Ow O G)) H sh (.ref a) d1 B → B = [a] := fun {B d1} hB => by
    obtain ⟨d2, h2⟩ := ht
    cases h2 with
    | lst q1 q2 => cases hB with | lst p1 p2 => rfl
    | dk q1 q2 => cases hB with | dk p1 p2 => rfl
    | dn q1 q2 => cases hB with | dn p1 p2 => rfl
    | obj q1 q2 q3 => exact absurd rfl (hk _ _)
  cases p with
  | s i =>
    cases hs
    obtain ⟨v, e1, rs⟩ := h.slot i d (join_some e)
    have hv : σ[i]? = some (some (.ref a)) := hv
    rw [e1] at hv
    cases hv
    have hO : O i = [a] := one rs
    have ha : a ∈ O i := by rw [hO]; exact List.mem_cons_self
    obtain ⟨R2, E2⟩ := h.wr0 (A := [a]) (o' := o') (d' := d') (join_some e) ha (fun b z => by rw [hO]; exact z) (fun v ev => by
      rw [e1] at ev
      cases ev
      exact new _ (by
        have := chg_sm (B := []) (A := [a]) (H := H) (G := G) (o' := o') ha (fun b z => .inl (by rw [hO]; exact z))
        rwa [ga_nil] at this))
    exact ⟨_, R2, E2⟩
  | f i n =>
    obtain ⟨C, T, hC, fo⟩ := hp
    have e : (match (r[i]?).join with | some (.dict ds) => fldD ds n | _ => none) = some d := e
    cases e0 : (r[i]?).join with
    | none => rw [e0] at e; cases e
    | some d0 =>
      rw [e0] at e
      cases d0 with
      | dict ds =>
        obtain ⟨v0, e1, rs⟩ := h.slot i _ (join_some e0)
        rw [hC] at rs
        obtain ⟨x, dx, fs, ds', B, rfl, ed, eA, hx, rf, nx⟩ := rs.objI
        cases ed
        obtain ⟨v, k, B', h1, h2, h3, h4, h5⟩ := rf.at_ e
        have hs : (match (ms i).sh with | .obj _ T => (T.lookup n).map Fk.sh | _ => none) = some sh := hs
        rw [hC] at hs
        simp only at hs
        rw [h2] at hs
        cases hs
        obtain ⟨x2, C2, dx2, fs2, g1, g2, _, _, g3⟩ := hv
        rw [e1] at g1
        cases g1
        rw [hx] at g2
        cases g2
        rw [h1] at g3
        cases g3
        have hB : B' = [a] := one h3.toS
        subst hB
        have haB : a ∈ B := h4 a List.mem_cons_self
        have ha : a ∈ O i := by rw [eA]; exact List.mem_cons_of_mem _ haB
        have hne : x ≠ a := fun z => nx (by rw [z]; exact haB)
        obtain ⟨R2, E2⟩ := h.wr0 (A := O i) (o' := o') (d' := .dict (setFD ds n d')) (join_some e0) ha (fun b z => z) (fun v ev => by
          rw [e1] at ev
          cases ev
          have sm : Same (msk H (Ow O G)) (msk (upd H a o') (Ow (updO O i (O i)) G)) := by
            have := chg_sm (B := []) (A := O i) (H := H) (G := G) (o' := o') ha (fun b z => .inl z)
            rwa [ga_nil] at this
          rw [hC, eA]
          rw [eA] at sm
          refine .obj (by rw [upd_ne hne]; exact hx) ?_ nx
          refine RepFs.mono sm (H := upd H a o') ?_ fun _ _ _ z => z
          exact h5 (upd H a o') d' (fun b hb nb o z => by rw [upd_ne fun z2 => nb (by rw [z2]; exact List.mem_cons_self)]; exact z) (.ofS (new _ (Same.refl _))))
        refine ⟨_, ?_, E2⟩
        show Rel w K ms σ _ (match (r[i]?).join with | some (.dict ds) => r.set i (some (.dict (setFD ds n d'))) | _ => r) _ G
        rw [e0]
        exact R2
      | _ => cases e
end
end DL
end

section
set_option maxHeartbeats 1000000
namespace DL
open PySem PySem.Spec PyProof.Rows L2
/-! ## expressions that only read: RO a pure value, RB what can be read now -/
def tRO (X : Cx) (ms : Ms) (f : Rho → Option D) : TE := fun σ H Q => ∃ r O G, Rel X.w X.K ms σ H r O G ∧ ∃ d, f r = some d ∧ ∀ v H', Same H H' → Rep X.K (msk H' (Ow O G)) v d → Q v H'
abbrev RO (X : Cx) (ms : Ms) (e : Expr) (f : Rho → Option D) : Prop := PE X e (tRO X ms f)
def tRB (X : Cx) (ms : Ms) (f : Rho → Option D) : TE := fun σ H Q => ∃ r O G, Rel X.w X.K ms σ H r O G ∧ ∃ d, f r = some d ∧ ∀ v H', Same H H' → RepB X.K (msk H' (Ow O G)) H' v d → Q v H'
abbrev RB (X : Cx) (ms : Ms) (e : Expr) (f : Rho → Option D) : Prop := PE X e (tRB X ms f)
def tPt (X : Cx) (p : Pth) : TE := fun σ H Q => ∃ v, ValP X.K σ H v p ∧ Q v H
abbrev PtE (X : Cx) (e : Expr) (p : Pth) : Prop := PE X e (tPt X p)
def tRBs (X : Cx) (ms : Ms) (f : Rho → Option (List D)) : TA := fun σ H Q => ∃ r O G, Rel X.w X.K ms σ H r O G ∧ ∃ ds, f r = some ds ∧ ∀ vs H', Same H H' → RepBs X.K (msk H' (Ow O G)) H' vs ds → Q vs H'
abbrev RBs (X : Cx) (ms : Ms) (es : List Expr) (f : Rho → Option (List D)) : Prop := PA X es (tRBs X ms f)
def tROs (X : Cx) (ms : Ms) (f : Rho → Option (List D)) : TA := fun σ H Q => ∃ r O G, Rel X.w X.K ms σ H r O G ∧ ∃ ds, f r = some ds ∧ ∀ vs H', Same H H' → RepAll X.K (msk H' (Ow O G)) vs ds → Q vs H'
abbrev ROs (X : Cx) (ms : Ms) (es : List Expr) (f : Rho → Option (List D)) : Prop := PA X es (tROs X ms f)
def tRP (X : Cx) (ms : Ms) (f : Rho → Option (Option Int)) : TO := fun σ H Q => ∃ r O G, Rel X.w X.K ms σ H r O G ∧ ∃ d, f r = some d ∧ ∀ H', Same H H' → Q d H'
abbrev RP (X : Cx) (ms : Ms) (e : Option Expr) (f : Rho → Option (Option Int)) : Prop := PO X e (tRP X ms f)
def eRO (f : Rho → Option D) : Rho → R D := fun r => .ofO (f r) r
def rVar (i : Nat) : Rho → Option D := fun r => (r[i]?).join
def rPth (p : Pth) : Rho → Option D := fun r => p.get r
def rCst (d : D) : Rho → Option D := fun _ => some d
def rBin (sem : D → D → Option D) (f g : Rho → Option D) : Rho → Option D := fun r => (f r).bind fun x => (g r).bind fun y => sem x y
def rNil : Rho → Option (List D) := fun _ => some []
def rCons (f : Rho → Option D) (g : Rho → Option (List D)) : Rho → Option (List D) := fun r => (f r).bind fun x => (g r).map (x :: ·)
def rTup (g : Rho → Option (List D)) : Rho → Option D := fun r => (g r).bind fun ds => if ds.length ≤ sizeLine then some (.tuple ds) else none
def rCall (sem : List D → Option D) (g : Rho → Option (List D)) : Rho → Option D := fun r => (g r).bind sem
def rpNone : Rho → Option (Option Int) := fun _ => some none
def rpSome (f : Rho → Option D) : Rho → Option (Option Int) := fun r => match f r with
  | some (.int i) => some (some i)
  | _ => none
def rSl (f : Rho → Option D) (g k : Rho → Option (Option Int)) : Rho → Option D := fun r => (f r).bind fun d => (g r).bind fun lo => (k r).bind fun hi => dSl d lo hi
/-- d[k], k there -/
def rDget (n : Bool) (p : Pth) (f : Rho → Option D) : Rho → Option D := fun r => match p.get r, f r with
  | some (.dict ds), some k => if keyFit n k = true then valD ds k else none
  | _, _ => none
def rDlen (p : Pth) : Rho → Option D := fun r => match p.get r with
  | some (.dict ds) => some (.int ds.length)
  | _ => none
section
variable {X : Cx} {W : WX} {ms : Ms} {rs : Shp} {e a b : Expr} {es : List Expr} {f g : Rho → Option D} {fs : Rho → Option (List D)} {p : Pth} {pos ppos apos p2 : Pos}
theorem ValP.same {K : PySem.W.Frag} {σ : L2.St} {H H' : Hp} {v : V} (h : ValP K σ H v p) (s : Same H H') : ValP K σ H' v p := by
  cases p with
  | s i => exact h
  | f i n =>
    obtain ⟨x, C, dx, fs, h1, h2, h3, h4, h5⟩ := h
    exact ⟨x, C, dx, fs, h1, s _ _ h2, h3, h4, h5⟩
theorem RepB.same {K : PySem.W.Frag} {H H' : Hp} {G : Gh} {v : V} {d : D} (h : RepB K (msk H G) H v d) (s : Same H H') : RepB K (msk H' G) H' v d := by
  rcases h with h | ⟨a, vs, ds, h1, h2, h3, h4⟩
  · exact .inl (h.mono (msk_same s))
  · exact .inr ⟨a, vs, ds, h1, h2, s _ _ h3, h4.mono (msk_same s)⟩
theorem pt_s (i : Nat) {x : Str} (hN : X.N[i]? = some x := by rfl) (hv : Vis X.env.scope x := by first | exact Or.inl rfl | exact Or.inr (Or.inl rfl) | exact Or.inr (Or.inr rfl)) (hd : (x == ("__debug__" : Str)) = false := by decide)
    (hcd : (x == ("__classdict__" : Str)) = false := by decide) : PtE X (.Name x pos) (.s i) :=
  (pe_var hN hv hd hcd).weak fun σ H Q ⟨v, h, q⟩ => ⟨v, h, q⟩
theorem pt_f (i : Nat) (n : Str) {x : Str} (hN : X.N[i]? = some x := by rfl) (hv : Vis X.env.scope x := by first | exact Or.inl rfl | exact Or.inr (Or.inl rfl) | exact Or.inr (Or.inr rfl)) (hd : (x == ("__debug__" : Str)) = false := by decide)
    (hcd : (x == ("__classdict__" : Str)) = false := by decide) (hb : attributeBase (.Name x pos) n X.env (eval (.Name x pos) X.env) = eval (.Name x pos) X.env := by rfl) : PtE X (.Attribute (.Name x pos) n apos) (.f i n) :=
  (pe_fld (pe_var hN hv hd hcd) hb).weak fun σ H Q ⟨v, ⟨x, C, dx, fs, h1, h2, h3, h4, h5⟩, q⟩ => ⟨_, h1, x, C, dx, fs, v, rfl, h2, h3, h4, h5, q⟩
theorem ce_ro (h : RO X ms e f) : CE X W ms e (eRO f) := h.weak fun σ H Q ⟨r, O, G, R, q⟩ => by
  obtain ⟨d, e, q⟩ := on_ofO q
  exact ⟨r, O, G, R, d, e, fun v H' sm rp => q v H' O (R.same sm) (.same sm R.tr) rp⟩
theorem rb_ro (h : RO X ms e f) : RB X ms e f := h.weak fun σ H Q ⟨r, O, G, R, d, e, q⟩ => ⟨r, O, G, R, d, e, fun v H' sm rp => q v H' sm (.inl rp)⟩
theorem ro_var (i : Nat) {x : Str} (hs : (ms i).sh = .pur := by rfl) (hN : X.N[i]? = some x := by rfl) (hv : Vis X.env.scope x := by first | exact Or.inl rfl | exact Or.inr (Or.inl rfl) | exact Or.inr (Or.inr rfl)) (hd : (x == ("__debug__" : Str)) = false := by decide)
    (hcd : (x == ("__classdict__" : Str)) = false := by decide) : RO X ms (.Name x pos) (rVar i) :=
  (pe_var hN hv hd hcd).weak fun σ H Q ⟨r, O, G, R, d, e, q⟩ => by
    obtain ⟨v, e1, rp⟩ := R.pur (join_some e) hs
    exact ⟨v, e1, q v H (Same.refl _) rp⟩
theorem ro_int {i : Int} {j : Nat} : RO X ms (.Constant (.int i) j pos) (rCst (.int i)) := pe_int.weak fun σ H Q ⟨r, O, G, h, d, e, q⟩ => by cases e; exact q _ H (Same.refl _) (.int i)
theorem ro_bl {i : Bool} {j : Nat} : RO X ms (.Constant (.bool i) j pos) (rCst (.bool i)) := pe_bl.weak fun σ H Q ⟨r, O, G, h, d, e, q⟩ => by cases e; exact q _ H (Same.refl _) (.bl i)
theorem ro_non {j : Nat} : RO X ms (.Constant .none j pos) (rCst .none) := pe_non.weak fun σ H Q ⟨r, O, G, h, d, e, q⟩ => by cases e; exact q _ H (Same.refl _) .non
theorem ro_str {i : Str} {j : Nat} : RO X ms (.Constant (.str i) j pos) (rCst (.str i)) := pe_str.weak fun σ H Q ⟨r, O, G, h, d, e, q⟩ => by cases e; exact q _ H (Same.refl _) (.str i)
theorem ro_glob {x : Str} {v : V} {u : Value} {d : D} (hm : X.mg x = some u) (rv : RelV v u) (hr : ∀ H, Rep X.K H v d) (hg : Gl X x := by rfl) (hd : (x == ("__debug__" : Str)) = false := by decide) : RO X ms (.Name x pos) (rCst d) :=
  (pe_glob hg hm rv hd).weak fun σ H Q ⟨r, O, G, h, d', e, q⟩ => by cases e; exact q _ H (Same.refl _) (hr _)
theorem ro_globS {x z : Str} (hm : ∃ t, X.mg x = some (.str z t)) (hg : Gl X x := by rfl) (hd : (x == ("__debug__" : Str)) = false := by decide) : RO X ms (.Name x pos) (rCst (.str z)) := by
  obtain ⟨t, hm⟩ := hm
  exact ro_glob (v := .str z) hm ⟨t, rfl⟩ (fun _ => .str z) hg hd
theorem ro_globI {x : Str} {z : Int} (hm : ∃ t, X.mg x = some (.int z t)) (hg : Gl X x := by rfl) (hd : (x == ("__debug__" : Str)) = false := by decide) : RO X ms (.Name x pos) (rCst (.int z)) := by
  obtain ⟨t, hm⟩ := hm
  exact ro_glob (v := .int z) hm ⟨t, rfl⟩ (fun _ => .int z) hg hd
/-- what stands at a place, to be read -/
theorem rb_pth (hp : PtE X e p) (ok : POk X.K ms p) (hs : shAt ms p = some .pur ∨ shAt ms p = some .lst) : RB X ms e (rPth p) := hp.weak fun σ H Q ⟨r, O, G, R, d, e, q⟩ => by
  rcases hs with hs | hs
  · obtain ⟨v, B, hv, rr, _⟩ := R.at_ ok e hs
    exact ⟨v, hv, q v H (Same.refl _) (.inl rr.purI.2)⟩
  · obtain ⟨v, B, hv, rr, _⟩ := R.at_ ok e hs
    obtain ⟨a, vs, ds, rfl, rfl, _, ha, ra⟩ := rr.lstI
    exact ⟨_, hv, q _ H (Same.refl _) (.inr ⟨a, vs, ds, rfl, rfl, ha, ra⟩)⟩
theorem ro_pth (hp : PtE X e p) (ok : POk X.K ms p) (hs : shAt ms p = some .pur) : RO X ms e (rPth p) := hp.weak fun σ H Q ⟨r, O, G, R, d, e, q⟩ => by
  obtain ⟨v, B, hv, rr, _⟩ := R.at_ ok e hs
  exact ⟨v, hv, q v H (Same.refl _) rr.purI.2⟩
/-- two readings -/
theorem rb2 {r2 : R2} {sem : D → D → Option D} (hs : SemR X r2 sem) {σ : L2.St} {H : Hp} {Q : VK} (h : tRO X ms (rBin sem f g) σ H Q) : tOp r2 (tRB X ms f) (tRB X ms g) σ H Q := by
  obtain ⟨r, O, G, R, d, e, q⟩ := h
  obtain ⟨x, ex, e⟩ := bind_some e
  obtain ⟨y, ey, e⟩ := bind_some e
  refine ⟨r, O, G, R, x, ex, fun v1 H1 s1 p1 => ⟨r, O, G, R.same s1, y, ey, fun v2 H2 s2 p2 => ?_⟩⟩
  exact hs v1 v2 x y d H2 (Ow O G) Q (p1.same s2) p2 ((R.same s1).same s2).trO e fun v H' sm rp => q v H' (s1.trans (s2.trans sm)) rp
theorem ro_bin {op : Operator} {r2 : R2} {sem : D → D → Option D} (ho : OpR X (binaryOp op) r2) (hs : SemR X r2 sem) (ha : RB X ms a f) (hb : RB X ms b g) : RO X ms (.BinOp a op b pos) (rBin sem f g) :=
  (pe_op ho ha hb).weak fun _ _ _ h => rb2 hs h
theorem ro_ix (ha : RB X ms a f) (hb : RB X ms b g) (hs : PlainIx b := by exact fun _ _ => rfl) : RO X ms (.Subscript a b pos) (rBin dIx f g) :=
  (pe_ix ix_seq ha hb hs).weak fun _ _ _ h => rb2 sr_ix h
theorem rbs_nil : RBs X ms [] rNil := pa_nil.weak fun σ H Q ⟨r, O, G, R, ds, e, q⟩ => by cases e; exact q [] H (Same.refl _) .nil
theorem rbs_cons (ha : RB X ms a f) (hr : RBs X ms es fs) (hs : starEach (a :: es) X.env = (false, eval a X.env) :: starEach es X.env := by rfl) : RBs X ms (a :: es) (rCons f fs) :=
  (pa_cons ha hr hs).weak fun σ H Q ⟨r, O, G, R, ds, e, q⟩ => by
    obtain ⟨x, ex, e⟩ := bind_some e
    obtain ⟨ys, ey, rfl⟩ := Option.map_eq_some_iff.mp e
    exact ⟨r, O, G, R, x, ex, fun v1 H1 s1 p1 => ⟨r, O, G, R.same s1, ys, ey, fun v2 H2 s2 p2 => q _ H2 (s1.trans s2) (.cons (p1.same s2) p2)⟩⟩
theorem ros_nil : ROs X ms [] rNil := pa_nil.weak fun σ H Q ⟨r, O, G, R, ds, e, q⟩ => by cases e; exact q [] H (Same.refl _) .nil
theorem ros_cons (ha : RO X ms a f) (hr : ROs X ms es fs) (hs : starEach (a :: es) X.env = (false, eval a X.env) :: starEach es X.env := by rfl) : ROs X ms (a :: es) (rCons f fs) :=
  (pa_cons ha hr hs).weak fun σ H Q ⟨r, O, G, R, ds, e, q⟩ => by
    obtain ⟨x, ex, e⟩ := bind_some e
    obtain ⟨ys, ey, rfl⟩ := Option.map_eq_some_iff.mp e
    exact ⟨r, O, G, R, x, ex, fun v1 H1 s1 p1 => ⟨r, O, G, R.same s1, ys, ey, fun v2 H2 s2 p2 => q _ H2 (s1.trans s2) (.cons (p1.mono (msk_same s2)) p2)⟩⟩
theorem ro_tup {x1 : Nat} (h : ROs X ms es fs) : RO X ms (.Tuple es x1 pos) (rTup fs) := (pe_tup h).weak fun σ H Q ⟨r, O, G, R, d, e, q⟩ => by
  obtain ⟨ds, e1, e⟩ := bind_some e
  obtain ⟨hz, rfl⟩ := ite_some e
  refine ⟨r, O, G, R, ds, e1, fun vs H1 s1 p1 => ⟨by rw [p1.len]; exact hz, fun p hp => ?_⟩⟩
  obtain ⟨s2, rp⟩ := new_tup (R.same s1).trO hp p1
  exact q _ _ (s1.trans s2) rp
theorem ro_callB {r : List V → Hp → VK → Prop} {sem : List D → Option D} {x : Str} {id : String} {p : Pos} (hc : CallR X (.builtin id) r) (hs : SemC X r sem) (hm : X.mg x = none) (hv : bootBuiltins x = some (.builtin id)) (ha : RBs X ms (e :: es) fs) (hg : Gl X x := by rfl) (hn : x ≠ "__name__" := by decide) (hdb : (x == ("__debug__" : Str)) = false := by decide)
    (he : starEach (e :: es) X.env = (false, eval e X.env) :: starEach es X.env := by rfl) (hpl : (backTo pos (starEach es X.env)).any (·.1) = false := by rfl) : RO X ms (.Call (.Name x p) (e :: es) [] pos) (rCall sem fs) :=
  (pe_callB hc hg hm hv ha hn hdb he hpl).weak fun σ H Q ⟨r, O, G, R, d, e, q⟩ => by
    obtain ⟨ds, e1, e⟩ := bind_some e
    exact ⟨r, O, G, R, ds, e1, fun vs H1 s1 p1 => hs vs ds d H1 (Ow O G) Q p1 (R.same s1).trO e fun v H' sm rp => q v H' (s1.trans sm) rp⟩
theorem rp_none : RP X ms none rpNone := po_none.weak fun σ H Q ⟨r, O, G, R, d, e, q⟩ => by cases e; exact q H (Same.refl _)
theorem rp_some (h : RO X ms e f) : RP X ms (some e) (rpSome f) := (po_some h).weak fun σ H Q ⟨r, O, G, R, d, e, q⟩ => by
  unfold rpSome at e
  cases e1 : f r with
  | none => rw [e1] at e; cases e
  | some x =>
    rw [e1] at e
    cases x <;> first | (cases e; done) | skip
    cases e
    exact ⟨r, O, G, R, _, e1, fun v H' sm rp => ⟨_, rp.intI, q H' sm⟩⟩
theorem ro_sl {lo hi : Option Expr} {gl gh : Rho → Option (Option Int)} (he : RB X ms e f) (hl : RP X ms lo gl) (hh : RP X ms hi gh) : RO X ms (.Subscript e (.Slice lo hi none p2) pos) (rSl f gl gh) :=
  (pe_slice sl_all he hl hh).weak fun σ H Q ⟨r, O, G, R, d, e, q⟩ => by
    obtain ⟨x, ex, e⟩ := bind_some e
    obtain ⟨lo, el, e⟩ := bind_some e
    obtain ⟨hi, eh, e⟩ := bind_some e
    refine ⟨r, O, G, R, x, ex, fun v1 H1 s1 p1 => ⟨r, O, G, R.same s1, lo, el, fun H2 s2 => ⟨r, O, G, (R.same s1).same s2, hi, eh, fun H3 s3 => ?_⟩⟩⟩
    exact ss_all v1 x d lo hi H3 (Ow O G) Q (p1.same (s2.trans s3)) (((R.same s1).same s2).same s3).trO e fun u H' sm rp => q u H' (s1.trans (s2.trans (s3.trans sm))) rp
theorem dd_typeIs {pins : List (Addr × Obj)} {σ : L2.St} {H M : Hp} {s : Shared} {c : Addr} {n : Bool} {o : HO} {ds : List (D × D)} (I : Inv X pins σ H s) (sm : Same M H) (h : H c = some o) (g : DRepO n X.w X.K M c o ds) : s.TypeIs (.ref c) "dict" := by
  cases n with
  | false =>
    obtain ⟨kvs, rfl, r⟩ := g
    obtain ⟨_, _, vs, _, dd⟩ := dk_of I.hok h
    exact dd.typeIs
  | true =>
    obtain ⟨xs, rfl, r⟩ := g
    obtain ⟨_, _, ys, _, dd⟩ := dn_of I sm h r
    exact dd.typeIs
/-- what a dict at a place asks of the heap -/
def DAt (X : Cx) (n : Bool) (M H : Hp) (v : V) (ds : List (D × D)) : Prop := ∃ c o, v = .ref c ∧ H c = some o ∧ DRepO n X.w X.K M c o ds ∧ Same M H
theorem DAt.same {n : Bool} {H H' : Hp} {G : Gh} {v : V} {ds : List (D × D)} (h : DAt X n (msk H G) H v ds) (s : Same H H') : DAt X n (msk H' G) H' v ds := by
  obtain ⟨c, o, e, hc, g, sm⟩ := h
  exact ⟨c, o, e, s _ _ hc, g.mono (msk_same s), msk_sub⟩
theorem pe_dgetD {n : Bool} {td ty : TE} (hu : X.A.units + 64 < cLine) (ho : PE X a td) (hi : PE X b ty) (hs : NoSl b) : PE X (.Subscript a b pos) (fun σ H Q => td σ H fun x H1 => ty σ H1 fun y H2 => ∃ M ds kd d, DAt X n M H2 x ds ∧ Rep X.K M y kd ∧ keyFit n kd = true ∧ valD ds kd = some d ∧ ∀ v, Rep X.K M v d → Q v H2) := by
  refine ⟨fun pins s σ H Q I h => ?_⟩
  refine subD_of PySem.F.slot_dict_getitem.lookup hs (thn (ho.run pins s σ H _ I h) fun u s1 ⟨x, H1, I1, rx, q1⟩ => thn (hi.run pins s1 σ H1 _ I1 q1) fun iv s2 ⟨y, H2, I2, ry, M, ds, kd, d, ⟨c, o, ex, hc, g, sm⟩, rk, hf, hv, q2⟩ => ?_)
  subst ex
  obtain rfl : u = Value.ref c := rx
  exact ⟨dd_typeIs I2 sm hc g, dd_get (by omega) I2 sm hc g rk ry hf hv fun v w' s3 I3 rw' rp => ⟨v, H2, I3, rw', q2 v rp⟩⟩
theorem Rel.dct {σ : L2.St} {H : Hp} {r : Rho} {O : Own} {G : Gh} {n : Bool} {d : D} (R : Rel X.w X.K ms σ H r O G) (ok : POk X.K ms p) (e : p.get r = some d) (hs : shAt ms p = some (dkSh n)) : ∃ v ds, ValP X.K σ H v p ∧ d = .dict ds ∧ DAt X n (msk H (Ow O G)) H v ds := by
  obtain ⟨v, B, vp, rr, _⟩ := R.at_ ok e hs
  obtain ⟨c, o, ds', rfl, ed, _, hc, dr⟩ := rr.dctI
  exact ⟨_, ds', vp, ed, c, o, rfl, hc, dr, msk_sub⟩
theorem rDget_some {n : Bool} {r : Rho} {d : D} (e : rDget n p f r = some d) : ∃ ds kd, p.get r = some (.dict ds) ∧ f r = some kd ∧ keyFit n kd = true ∧ valD ds kd = some d := by
  unfold rDget at e
  split at e
  · rename_i ds k e1 e2
    split at e
    · rename_i hf
      exact ⟨ds, k, e1, e2, hf, e⟩
    · cases e
  · cases e
/-- d[k] of a dict of one's own -/
theorem ro_dget (n : Bool) (hu : X.A.units + 64 < cLine) (hp : PtE X a p) (ok : POk X.K ms p) (hk : RO X ms b f) (hs : shAt ms p = some (dkSh n) := by rfl) (hns : NoSl b := by exact fun _ _ => rfl) : RO X ms (.Subscript a b pos) (rDget n p f) :=
  (pe_dgetD (n := n) hu hp hk hns).weak fun σ H Q ⟨r, O, G, R, d, e, q⟩ => by
    obtain ⟨ds, kd, e1, e2, hf, hv⟩ := rDget_some e
    obtain ⟨v, ds', vp, ed, da⟩ := R.dct ok e1 hs
    cases ed
    exact ⟨v, vp, r, O, G, R, kd, e2, fun y H2 s2 ry => ⟨_, ds, kd, d, da.same s2, ry, hf, hv, fun v' rv => q v' H2 s2 rv⟩⟩
/-- len(d) -/
theorem pe_lenD {x : Str} {pp : Pos} {td : TE} {n : Bool} (hm : X.mg x = none) (hv : bootBuiltins x = some (.builtin "len")) (ho : PE X a td) (hg : Gl X x := by rfl) (hn : x ≠ "__name__" := by decide) (hdb : (x == ("__debug__" : Str)) = false := by decide)
    (he : starEach [a] X.env = (false, eval a X.env) :: starEach [] X.env := by rfl) (hpl : (backTo pos (starEach [] X.env)).any (·.1) = false := by rfl) :
    PE X (.Call (.Name x pp) [a] [] pos) (tCB (fun vs H Q => ∃ x M ds, vs = [x] ∧ DAt X n M H x ds ∧ Q (.int (ds.length : Nat)) H) (tCons td tNil)) := by
  refine pe_callB ?_ hg hm hv (pa_cons ho pa_nil he) hn hdb he hpl
  intro pins s σ H vs us Q I rv h
  obtain ⟨x, M, ds, rfl, ⟨c, o, rfl, hc, g, sm⟩, q⟩ := h
  cases rv with
  | cons r1 r2 =>
    cases r2
    cases (show _ = Value.ref c from r1)
    cases n with
    | false =>
      obtain ⟨kvs, rfl, r⟩ := g
      rw [← r.len] at q
      exact d_len I (.inl hc) fun t s' I' => ⟨.int (kvs.length : Nat), H, I', ⟨t, rfl⟩, q⟩
    | true =>
      obtain ⟨xs, rfl, r⟩ := g
      obtain ⟨z, hd, ys, pn, dd⟩ := dn_of I sm hc r
      have hl : xs.length = ys.length := Paired.length pn
      rw [← r.len, hl] at q
      refine call_len_dictH hd dd (by rw [← hl]; rw [sizeLine_eq] at z; omega) ?_
      exact ⟨.int (ys.length : Nat), H, I.tok _, ⟨_, rfl⟩, q⟩
theorem ro_dlen (n : Bool) {x : Str} {pp : Pos} (hm : X.mg x = none) (hv : bootBuiltins x = some (.builtin "len")) (hp : PtE X a p) (ok : POk X.K ms p) (hs : shAt ms p = some (dkSh n) := by rfl) (hg : Gl X x := by rfl) (hn : x ≠ "__name__" := by decide) (hdb : (x == ("__debug__" : Str)) = false := by decide)
    (he : starEach [a] X.env = (false, eval a X.env) :: starEach [] X.env := by rfl) (hpl : (backTo pos (starEach [] X.env)).any (·.1) = false := by rfl) : RO X ms (.Call (.Name x pp) [a] [] pos) (rDlen p) :=
  (pe_lenD (n := n) hm hv hp hg hn hdb he hpl).weak fun σ H Q ⟨r, O, G, R, d, e, q⟩ => by
    unfold rDlen at e
    split at e
    · rename_i ds e1
      cases e
      obtain ⟨v, ds', vp, ed, da⟩ := R.dct ok e1 hs
      cases ed
      exact ⟨v, vp, v, _, ds, rfl, da, q _ H (Same.refl _) (.int _)⟩
    · cases e
/-! k in d -/
def eDin (n neg : Bool) (p : Pth) (fk : Rho → R D) : Rho → R D := fun r => (fk r).bind fun kd r1 => match p.get r1 with
  | some (.dict ds) => if keyFit n kd = true then .ok (.bool (if neg = true then !hasD ds kd else hasD ds kd)) r1 else .bad
  | _ => .bad
theorem pc_dinD {n : Bool} {ty td : TE} (hu : X.A.units + 64 < cLine) (hi : PE X b ty) (ho : PE X a td) : PC X .In b a (fun σ H Q => ty σ H fun y H1 => td σ H1 fun x H2 => ∃ M ds kd, DAt X n M H2 x ds ∧ Rep X.K M y kd ∧ keyFit n kd = true ∧ Q (.bl (hasD ds kd)) H2) := by
  refine ⟨fun pins s σ H Q I h => ?_⟩
  refine thn (hi.run pins s σ H _ I h) fun iv s1 ⟨y, H1, I1, ry, q1⟩ => thn (ho.run pins s1 σ H1 _ I1 q1) fun u s2 ⟨x, H2, I2, rx, M, ds, kd, ⟨c, o, ex, hc, g, sm⟩, rk, hf, q2⟩ => ?_
  subst ex
  obtain rfl : u = Value.ref c := rx
  exact dd_in (by omega) I2 sm hc g rk ry hf fun s3 I3 => ⟨.bl _, H2, I3, rfl, q2⟩
theorem pc_dnotinD {n : Bool} {ty td : TE} (hu : X.A.units + 64 < cLine) (hi : PE X b ty) (ho : PE X a td) : PC X .NotIn b a (fun σ H Q => ty σ H fun y H1 => td σ H1 fun x H2 => ∃ M ds kd, DAt X n M H2 x ds ∧ Rep X.K M y kd ∧ keyFit n kd = true ∧ Q (.bl (!hasD ds kd)) H2) := by
  refine ⟨fun pins s σ H Q I h => ?_⟩
  refine thn (hi.run pins s σ H _ I h) fun iv s1 ⟨y, H1, I1, ry, q1⟩ => thn (ho.run pins s1 σ H1 _ I1 q1) fun u s2 ⟨x, H2, I2, rx, M, ds, kd, ⟨c, o, ex, hc, g, sm⟩, rk, hf, q2⟩ => ?_
  subst ex
  obtain rfl : u = Value.ref c := rx
  exact dd_notIn (by omega) I2 sm hc g rk ry hf fun s3 I3 => ⟨.bl _, H2, I3, rfl, q2⟩
theorem din_read {n neg : Bool} {fk : Rho → R D} (ok : POk X.K ms p) (hs : shAt ms p = some (dkSh n)) {σ : L2.St} {H : Hp} {Q : VK} (h : tE X W ms (eDin n neg p fk) σ H Q) :
    tE X W ms fk σ H fun y H1 => tPt X p σ H1 fun x H2 => ∃ M ds kd, DAt X n M H2 x ds ∧ Rep X.K M y kd ∧ keyFit n kd = true ∧ Q (.bl (if neg = true then !hasD ds kd else hasD ds kd)) H2 := by
  obtain ⟨r, O, G, R, h⟩ := h
  unfold eDin at h
  rw [on_bind] at h
  refine tE_step R h fun kd r1 y H1 O1 h1 R1 E1 rk => ?_
  split at h1
  · rename_i ds e1
    split at h1
    · rename_i hf
      obtain ⟨v, ds', vp, ed, da⟩ := R1.dct ok e1 hs
      cases ed
      exact ⟨v, vp, _, ds, kd, da, rk, hf, h1 _ H1 O1 R1 E1 (.bl _)⟩
    · exact False.elim h1
  · exact False.elim h1
variable {fk : Rho → R D}
theorem ce_din (n : Bool) (hu : X.A.units + 64 < cLine) (hk : CE X W ms b fk) (hp : PtE X a p) (ok : POk X.K ms p) (hs : shAt ms p = some (dkSh n) := by rfl) (h1 : behindInMarks .In a = false := by rfl) : CE X W ms (.Compare b [.In] [a] pos) (eDin n false p fk) :=
  (pe_cmp (pc_dinD (n := n) hu hk hp) h1).weak fun σ H Q h => din_read ok hs h
theorem ce_dnotin (n : Bool) (hu : X.A.units + 64 < cLine) (hk : CE X W ms b fk) (hp : PtE X a p) (ok : POk X.K ms p) (hs : shAt ms p = some (dkSh n) := by rfl) (h1 : behindInMarks .NotIn a = false := by rfl) : CE X W ms (.Compare b [.NotIn] [a] pos) (eDin n true p fk) :=
  (pe_cmp (pc_dnotinD (n := n) hu hk hp) h1).weak fun σ H Q h => din_read ok hs h
theorem ct_ofE {t : TE} {u : Rho → R D} (h : PT X e (tB t)) (hr : ∀ {σ H Q}, tE X W ms u σ H Q → t σ H Q) : CT X W ms e (tBool u) :=
  h.weak fun σ H Q ⟨r, O, G, R, q⟩ => by
    unfold tBool at q
    rw [on_bind] at q
    refine hr (tE_step R q fun d r1 v H1 O1 h1 R1 E1 p1 => ?_)
    cases d with
    | bool b => exact ⟨b, p1.blI, h1 H1 O1 R1 E1⟩
    | _ => exact False.elim h1
theorem ct_din (n : Bool) (hu : X.A.units + 64 < cLine) (hk : CE X W ms b fk) (hp : PtE X a p) (ok : POk X.K ms p) (hs : shAt ms p = some (dkSh n) := by rfl) (h1 : behindInMarks .In a = false := by rfl) : CT X W ms (.Compare b [.In] [a] pos) (tBool (eDin n false p fk)) :=
  ct_ofE (pt_cmp (pc_dinD (n := n) hu hk hp) h1) fun h => din_read ok hs h
theorem ct_dnotin (n : Bool) (hu : X.A.units + 64 < cLine) (hk : CE X W ms b fk) (hp : PtE X a p) (ok : POk X.K ms p) (hs : shAt ms p = some (dkSh n) := by rfl) (h1 : behindInMarks .NotIn a = false := by rfl) : CT X W ms (.Compare b [.NotIn] [a] pos) (tBool (eDin n true p fk)) :=
  ct_ofE (pt_cmp (pc_dnotinD (n := n) hu hk hp) h1) fun h => din_read ok hs h
end
end DL
end

section
set_option maxHeartbeats 1000000
namespace DL
open PySem PySem.Spec PyProof.Rows L2
/-! ## stores into dicts of one's own -/
def sDput (n : Bool) (p : Pth) (fv : Rho → R D) (fk : Rho → Option D) : Rho → SR := fun r => (fv r).toS fun d r1 => match p.get r1, fk r1 with
  | some (.dict ds), some kd => if (keyFit n kd && decide (ds.length < sizeLine)) = true then .nx (p.set r1 (.dict (putD ds kd d))) else .bad
  | _, _ => .bad
/-- d.setdefault(k, v) -/
def eSetd (n : Bool) (p : Pth) (fk fv : Rho → Option D) : Rho → R D := fun r => match p.get r, fk r, fv r with
  | some (.dict ds), some kd, some vd => if (keyFit n kd && decide (ds.length < sizeLine)) = true then (match valD ds kd with
      | some d => .ok d r
      | none => .ok vd (p.set r (.dict (putD ds kd vd)))) else .bad
  | _, _, _ => .bad
/-- d.get(k, v) -/
def rDgetO (n : Bool) (p : Pth) (fk fv : Rho → Option D) : Rho → Option D := fun r => match p.get r, fk r, fv r with
  | some (.dict ds), some kd, some vd => if keyFit n kd = true then some ((valD ds kd).getD vd) else none
  | _, _, _ => none
theorem dkSh_no {n : Bool} : ∀ C T, dkSh n ≠ .obj C T := fun C T => by cases n <;> exact fun z => nomatch z
section
variable {X : Cx} {W : WX} {ms : Ms} {rs : Shp} {e a b c : Expr} {es : List Expr} {f g : Rho → Option D} {p : Pth} {pos ppos apos cpos pos' : Pos}
/-- a dict at a place gets another content -/
theorem Rel.dctSet {σ : L2.St} {H : Hp} {r : Rho} {O : Own} {G : Gh} {n : Bool} {ds ds' : List (D × D)} {l : Addr} {o' : HO} (R : Rel X.w X.K ms σ H r O G) (ok : POk X.K ms p) (e : p.get r = some (.dict ds)) (hs : shAt ms p = some (dkSh n)) (hv : ValP X.K σ H (.ref l) p)
    (da : DAt X n (msk H (Ow O G)) H (.ref l) ds) (new : DRepO n X.w X.K (msk H (Ow O G)) l o' ds') : ∃ O', Rel X.w X.K ms σ (upd H l o') (p.set r (.dict ds')) O' G ∧ Ext H O G (upd H l o') O' G := by
  obtain ⟨l', o, e1, hl, g, _⟩ := da
  cases e1
  exact R.chgP dkSh_no ok e hs hv ⟨_, g.toS hl⟩ fun M' sm => (new.mono sm).toS upd_same
theorem ps_dputD {n : Bool} {td ty tv : TE} (hu : X.A.units + 64 < cLine) (ho : PE X a td) (hi : PE X b ty) (hv : PE X e tv) (hs : swapsWith e (some (.Subscript a b pos')) pos.line X.env = pure false) :
    PS X (.Assign [.Subscript a b pos'] e pos) (fun D σ H => tv σ H fun v H1 => td σ H1 fun x H2 => ty σ H2 fun y H3 => ∃ M ds kd d l, x = .ref l ∧ DAt X n M H3 x ds ∧ Rep X.K M y kd ∧ keyFit n kd = true ∧ ds.length < sizeLine ∧ Rep X.K M v d ∧ ∀ o', DRepO n X.w X.K M l o' (putD ds kd d) → D.nx σ (upd H3 l o')) := by
  refine ⟨fun pins s σ H D I h => ?_⟩
  refine wpAny_Assign_Subscript (thn (hv.run pins s σ H _ I h) fun r s1 ⟨v, H1, I1, rv, q1⟩ => thn (ho.run pins s1 σ H1 _ I1 q1) fun u s2 ⟨x, H2, I2, rx, q2⟩ => thn (hi.run pins s2 σ H2 _ I2 q2) fun iv s3 ⟨y, H3, I3, ry, M, ds, kd, d, l, ex, ⟨l', o, ex2, hc, g, sm⟩, rk, hf, hz, rd, q3⟩ => ?_) hs
  subst ex
  cases ex2
  obtain rfl : u = Value.ref l := rx
  exact dd_put (by omega) I3 sm hc g hz rk ry hf rd rv fun o' s4 I4 g4 => ⟨σ, _, I4, q3 o' g4⟩
theorem cs_dput (n : Bool) {fv : Rho → R D} (hu : X.A.units + 64 < cLine) (hv : CE X W ms e fv) (hp : PtE X a p) (ok : POk X.K ms p) (hk : RO X ms b f) (hs : shAt ms p = some (dkSh n) := by rfl) (hsw : swapsWith e (some (.Subscript a b pos')) pos.line X.env = pure false := by rfl) :
    CS X W ms rs (.Assign [.Subscript a b pos'] e pos) (sDput n p fv f) :=
  (ps_dputD (n := n) hu hp hk hv hsw).weak fun E σ H ⟨r, O, G, R, h⟩ => tE_step R (toS_on h) fun d r1 v H1 O1 q R1 E1 rv => by
    split at q
    · rename_i ds kd e1 e2
      split at q
      · rename_i hc
        rw [Bool.and_eq_true, decide_eq_true_eq] at hc
        obtain ⟨x, ds', vp, ed, da⟩ := R1.dct ok e1 hs
        cases ed
        obtain ⟨l, o, rfl, hl, g, sm⟩ := id da
        refine ⟨_, vp, r1, O1, G, R1, kd, e2, fun y H2 s2 rk => ⟨_, ds, kd, d, l, rfl, da.same s2, rk, hc.1, hc.2, rv.mono (msk_same s2), fun o' g' => ?_⟩⟩
        have R2 := R1.same s2
        obtain ⟨O3, R3, E3⟩ := R2.dctSet ok e1 hs (vp.same s2) (da.same s2) g'
        exact q σ _ O3 R3 (E1.trans ((Ext.same s2 R1.tr).trans E3)) .refl
      · exact False.elim q
    · exact False.elim q
/-! {} -/
theorem dn_empty {P : Program} {H : Hp} (h : Heap) (hb : sysModules < h.objs.size) (w : World) : ObjOk P w H (h.push { cls := .type "dict", data := .dict #[] }) h.objs.size (dnO w h.objs.size []) := by
  refine ⟨⟨Nat.zero_le _, beq_eq_false_iff_ne.mpr (Ne.symm (Nat.ne_of_lt hb)), List.nodup_nil, [], .nil, _, #[], 0, Heap.get?_push_size _ rfl, ⟨rfl, rfl, rfl⟩, rfl, rfl⟩, ⟨_, Heap.get?_push_size _ rfl⟩, fun h1 h2 ⟨q1, q2, q3, zs, q4, o', es', ep', p1, p2, p3, p4⟩ k => ⟨q1, q2, q3, zs, q4, o', es', ep', k _ p1, p2, p3, p4⟩⟩
def dNew (n : Bool) (w : World) (a : Addr) : HO := match n with
  | false => .dK []
  | true => dnO w a []
theorem dNew_rep {n : Bool} {w : World} {K : PySem.W.Frag} {M : Hp} {a : Addr} : DRepO n w K M a (dNew n w a) [] := by
  cases n
  · exact ⟨[], rfl, .nil⟩
  · exact ⟨[], rfl, .nil⟩
theorem pe_dnew (n : Bool) : PE X (.Dict [] [] pos) (fun _ H Q => ∀ p, H p = none → Q (.ref p) (upd H p (dNew n X.w p))) := by
  cases n with
  | false => exact pe_dnewK.weak fun σ H Q h => h
  | true =>
    refine ⟨fun pins s σ H Q I h => wpAny_Dict_empty ?_⟩
    have hn : H s.heap.objs.size = none := I.hok.fresh (Nat.le_refl _)
    exact ⟨.ref s.heap.objs.size, _, I.laid (t' := s.toks) (fun b u e => Heap.get?_push_of_some _ e) (Nat.le_refl _) (dn_empty s.heap I.big X.w), rfl, h _ hn⟩
theorem own_newD {σ : L2.St} {r : Rho} {O : Own} {G : Gh} {H : Hp} {n : Bool} {l : Addr} {o : HO} {ds : List (D × D)} (R : Rel X.w X.K ms σ H r O G) (hp : H l = none) (g : DRepO n X.w X.K (msk H (Ow O G)) l o ds) :
    Rel X.w X.K ms σ (upd H l o) r O (GA [l] G) ∧ Ext H O G (upd H l o) O (GA [l] G) ∧ (∀ a ∈ [l], ¬ G a) ∧ RepS X.w X.K (msk (upd H l o) (Ow O (GA [l] G))) (upd H l o) (dkSh n) (.ref l) (.dict ds) [l] := by
  obtain ⟨R2, E2⟩ := R.guard (o := o) hp
  exact ⟨R2, E2, fun a ha g => R.tr a g (by rw [List.mem_singleton.mp ha]; exact hp), (g.mono E2.sm).toS upd_same⟩
def eDnew : Rho → R D := fun r => .ok (.dict []) r
theorem ceo_dnew (n : Bool) : CEo X W ms (dkSh n) (.Dict [] [] pos) eDnew := (pe_dnew n).weak fun σ H Q ⟨r, O, G, R, q⟩ l hl => by
  obtain ⟨R2, E2, n2, rs2⟩ := own_newD R hl (dNew_rep (n := n))
  exact q _ _ O [l] R2 E2 n2 rs2
/-- {k: v}, keys ints or texts -/
def eDisp (fk fv : Rho → Option D) : Rho → R D := fun r => match fk r, fv r with
  | some kd, some vd => if keyFit false kd = true then .ok (.dict [(kd, vd)]) r else .bad
  | _, _ => .bad
theorem ceo_disp (hk : RO X ms a f) (hv : RO X ms b g) : CEo X W ms .dk (.Dict [some a] [b] pos) (eDisp f g) :=
  (pe_disp (pps_cons hk hv pps_nil) (by rfl) (by rfl) (fun z => by cases z) (show 1 ≤ 15 by decide)).weak fun σ H Q ⟨r, O, G, R, h⟩ l hl => by
    unfold eDisp at h
    split at h
    · rename_i kd vd e1 e2
      split at h
      · rename_i hf
        obtain ⟨k, rfl⟩ := fitK hf
        obtain ⟨R1, E1⟩ := R.guard (o := .dK []) hl
        refine ⟨r, O, GA [l] G, R1, _, e1, fun y H2 s2 ry => ⟨r, O, GA [l] G, R1.same s2, _, e2, fun v H3 s3 rv => ?_⟩⟩
        have hl3 : H3 l = some (.dK []) := s3 _ _ (s2 _ _ upd_same)
        obtain rfl := ry.kV
        refine ⟨hl3, [(k, v)], rfl, show 1 ≤ 15 by decide, ?_⟩
        have R3 := (R1.same s2).same s3
        have W3 : Ow O (GA [l] G) l := .inl (.inl List.mem_cons_self)
        have me : msk (upd H3 l (.dK (mergeK [] [(k, v)]))) (Ow O (GA [l] G)) = msk H3 (Ow O (GA [l] G)) := by
          funext b
          by_cases q : Ow O (GA [l] G) b
          · rw [msk_in q, msk_in q]
          · rw [msk_out q, msk_out q, upd_ne (fun z => q (by rw [z]; exact W3))]
        have nl : ∀ i, l ∉ O i := fun i z => R3.dG i l z (.inl List.mem_cons_self)
        have R4 : Rel X.w X.K ms σ (upd H3 l (.dK (mergeK [] [(k, v)]))) r O (GA [l] G) := by
          refine ⟨R3.len, fun i d e => ?_, R3.emp, fun b g => ?_, R3.dj, R3.dG⟩
          · obtain ⟨v, e1, rs⟩ := R3.slot i d e
            rw [me]
            exact ⟨v, e1, rs.mono (Same.refl _) fun b hb o z => by rw [upd_ne (fun z2 => nl i (by rw [← z2]; exact hb))]; exact z⟩
          · by_cases q : b = l
            · rw [q, upd_same]; exact fun z => nomatch z
            · rw [upd_ne q]; exact R3.tr b g
        have E13 : Ext H O G H3 O (GA [l] G) := E1.trans ((Ext.same s2 R1.tr).trans (.same s3 (R1.same s2).tr))
        refine h (.ref l) _ O [l] R4 ⟨by rw [me]; exact E13.sm, fun b g => ⟨.inr g, ?_⟩⟩ (fun a ha g => R.tr a g (by rw [List.mem_singleton.mp ha]; exact hl)) ?_
        · rw [upd_ne (fun z => R.tr b g (by rw [z]; exact hl))]
          exact (E13.gh b g).2
        · rw [me]
          exact .dk upd_same (.cons rv .nil)
      · exact False.elim h
    · exact False.elim h
/-! setdefault, get -/
theorem dd_setd {pins : List (Addr × Obj)} {σ : L2.St} {H M : Hp} {s : Shared} {l : Addr} {A : Around} {E : Value → Shared → Prop} {n : Bool} {o : HO} {ds : List (D × D)} {y v : V} {kd vd : D} {u r : Value} {Q : Value → Shared → Prop} (hu : A.units + 9 < cLine) (I : Inv X pins σ H s) (sm : Same M H) (e : H l = some o) (g : DRepO n X.w X.K M l o ds) (hl : ds.length < sizeLine) (rk : Rep X.K M y kd) (ry : RelV y u) (hf : keyFit n kd = true) (rd : Rep X.K M v vd) (rv : RelV v r)
    (h1 : ∀ d v' w' s', valD ds kd = some d → Inv X pins σ H s' → RelV v' w' → Rep X.K M v' d → Q w' s')
    (h2 : ∀ o' w' s', valD ds kd = none → Inv X pins σ (upd H l o') s' → RelV v w' → DRepO n X.w X.K M l o' (putD ds kd vd) → Q w' s') : wpAny (model X.prog X.w) A (call (.builtin "dict.setdefault") [.ref l, u, r]) Q E s := by
  cases n with
  | false =>
    obtain ⟨kvs, rfl, rr⟩ := g
    obtain ⟨k, rfl⟩ := fitK hf
    obtain rfl := rk.kV
    refine d_setd I e ry rv (by rw [rr.len]; exact hl) (fun v' hv w' s' I' rw' => ?_) fun hv w' s' I' rw' => ?_
    · rcases rr.val k with ⟨q1, q2⟩ | ⟨v2, d, q1, q2, q3⟩
      · rw [q1] at hv; cases hv
      · rw [q1] at hv; cases hv
        exact h1 d _ w' s' q2 I' rw' q3
    · rcases rr.val k with ⟨q1, q2⟩ | ⟨v2, d, q1, q2, q3⟩
      · exact h2 _ w' s' q2 I' rw' ⟨_, rfl, rr.put rd⟩
      · rw [q1] at hv; cases hv
  | true =>
    obtain ⟨xs, rfl, rr⟩ := g
    obtain ⟨ks, k, rfl, ek, e8⟩ := fitN hf
    obtain ⟨b, zs, rfl, _⟩ := rk.tupI
    cases (show u = Value.ref b from ry)
    obtain ⟨z, hd, ys, pn, dd⟩ := dn_of I sm e rr
    have hk : (nestedKind X.prog X.w).is s.heap (.tup k) b := ⟨Rep.key I (rk.mono sm) rfl (by show (keysOf ks).map _ = _; rw [ek]; rfl), e8⟩
    refine call_setdefault_heap (knd := nestedKind X.prog X.w) (hsz := by rw [← Paired.length pn]; exact z) (show A.in1.units + 8 < cLine by rw [Around.in1_units]; omega) hk hd dd (fun p hp => ?_) fun hn h' dd' hs => ?_
    · rcases pn.val (.tup k) with ⟨q1, q2⟩ | ⟨v', p', q1, q2, q3⟩
      · rw [q2] at hp; cases hp
      · rw [q2] at hp; cases hp
        rcases rr.val ek with ⟨p1, p2⟩ | ⟨v2, d, p1, p2, p3⟩
        · rw [p1] at q1; cases q1
        · rw [p1] at q1; cases q1
          exact h1 d _ _ _ p2 (I.tok _) q3 p3
    · rcases pn.val (.tup k) with ⟨q1, q2⟩ | ⟨v', p', q1, q2, q3⟩
      · rcases rr.val ek with ⟨p1, p2⟩ | ⟨v2, d, p1, p2, p3⟩
        · exact h2 _ _ _ p2 (dn_put I e (by rw [rr.len]; exact hl) hd (pn.put rv) dd' hs _) rv ⟨_, rfl, rr.put rk ek e8 rd⟩
        · rw [p1] at q1; cases q1
      · rw [q2] at hn; cases hn
theorem dd_get2 {pins : List (Addr × Obj)} {σ : L2.St} {H M : Hp} {s : Shared} {l : Addr} {A : Around} {E : Value → Shared → Prop} {n : Bool} {o : HO} {ds : List (D × D)} {y v : V} {kd vd : D} {u r : Value} {Q : Value → Shared → Prop} (hu : A.units + 9 < cLine) (I : Inv X pins σ H s) (sm : Same M H) (e : H l = some o) (g : DRepO n X.w X.K M l o ds) (rk : Rep X.K M y kd) (ry : RelV y u) (hf : keyFit n kd = true) (rd : Rep X.K M v vd) (rv : RelV v r)
    (h : ∀ v' w' s', Inv X pins σ H s' → RelV v' w' → Rep X.K M v' ((valD ds kd).getD vd) → Q w' s') : wpAny (model X.prog X.w) A (call (.builtin "dict.get") [.ref l, u, r]) Q E s := by
  cases n with
  | false =>
    obtain ⟨kvs, rfl, rr⟩ := g
    obtain ⟨k, rfl⟩ := fitK hf
    obtain rfl := rk.kV
    refine d_get2 (by omega) I (DGet.k (k := k) e) ry rv fun w' s' I' rw' => ?_
    rcases rr.val k with ⟨q1, q2⟩ | ⟨v', d, q1, q2, q3⟩
    · rw [q1] at rw'; rw [q2] at h; exact h v w' s' I' rw' rd
    · rw [q1] at rw'; rw [q2] at h; exact h v' w' s' I' rw' q3
  | true =>
    obtain ⟨xs, rfl, rr⟩ := g
    obtain ⟨ks, k, rfl, ek, e8⟩ := fitN hf
    obtain ⟨b, zs, rfl, _⟩ := rk.tupI
    cases (show u = Value.ref b from ry)
    obtain ⟨z, hd, ys, pn, dd⟩ := dn_of I sm e rr
    have hk : (nestedKind X.prog X.w).is s.heap (.tup k) b := ⟨Rep.key I (rk.mono sm) rfl (by show (keysOf ks).map _ = _; rw [ek]; rfl), e8⟩
    refine call_meetsIn PySem.F.slot_dict_get dd.typeIs PySem.F.entry_dict_get (PySem.F.args_dict_get_3 _ _ _) (meetsH_dict_get_default (nestedKind X.prog X.w) l b hd r) ⟨show A.in1.units + 8 < cLine by rw [Around.in1_units]; omega, _, ys, hk, dd, ?_⟩
    rcases pn.val (.tup k) with ⟨q1, q2⟩ | ⟨v', p', q1, q2, q3⟩
    · rcases rr.val ek with ⟨p1, p2⟩ | ⟨v2, d, p1, p2, p3⟩
      · rw [q2]; rw [p2] at h; exact h v _ _ (I.tok _) rv rd
      · rw [p1] at q1; cases q1
    · rcases rr.val ek with ⟨p1, p2⟩ | ⟨v2, d, p1, p2, p3⟩
      · rw [p1] at q1; cases q1
      · rw [p1] at q1; cases q1
        rw [q2]; rw [p2] at h; exact h _ _ _ (I.tok _) q3 p3
theorem dd_noDict {pins : List (Addr × Obj)} {σ : L2.St} {H M : Hp} {s : Shared} {l : Addr} {n : Bool} {o : HO} {ds : List (D × D)} (I : Inv X pins σ H s) (sm : Same M H) (h : H l = some o) (g : DRepO n X.w X.K M l o ds) : ∀ b, Value.ref l = .ref b → ∃ ob, s.heap.get? b = some ob ∧ ob.dict = none := fun b q => by
  cases q
  cases n with
  | false =>
    obtain ⟨kvs, rfl, r⟩ := g
    obtain ⟨_, _, vs, _, ob, _, _, h1, h2, _⟩ := dk_of I.hok h
    exact ⟨ob, h1, h2.2.1⟩
  | true =>
    obtain ⟨xs, rfl, r⟩ := g
    obtain ⟨_, _, ys, _, ob, _, _, h1, h2, _⟩ := dn_of I sm h r
    exact ⟨ob, h1, h2.2.1⟩
theorem pe_setdD {n : Bool} {td ty tx : TE} (hu : X.A.units + 64 < cLine) (ho : PE X a td) (he : PE X b ty) (hf : PE X c tx) (m : M2 X a "setdefault" apos b c cpos) : PE X (.Call (.Attribute a "setdefault" apos) [b, c] [] cpos) (fun σ H Q => td σ H fun x H1 => (∃ M ds, DAt X n M H1 x ds) ∧ ty σ H1 fun y H2 => tx σ H2 fun z H3 =>
    ∃ M ds kd vd l, x = .ref l ∧ DAt X n M H3 x ds ∧ Rep X.K M y kd ∧ keyFit n kd = true ∧ ds.length < sizeLine ∧ Rep X.K M z vd ∧ (∀ d v', valD ds kd = some d → Rep X.K M v' d → Q v' H3) ∧ ∀ o', valD ds kd = none → DRepO n X.w X.K M l o' (putD ds kd vd) → Q z (upd H3 l o')) := by
  refine ⟨fun pins s σ H Q I h => ?_⟩
  refine wpAny_Call_method m.base m.few m.line PySem.F.plainAttrs_dict PySem.F.slot_dict_setdefault PySem.F.type_dict_setdefault (thn (ho.run pins s σ H _ I h) fun u s1 ⟨x, H1, I1, rx, ⟨M0, ds0, l0, o0, e0, hl0, g0, sm0⟩, q1⟩ => ?_)
  subst e0
  obtain rfl : u = Value.ref l0 := rx
  refine ⟨dd_typeIs I1 sm0 hl0 g0, dd_noDict I1 sm0 hl0 g0, ?_⟩
  rw [m.trees]
  refine Calls.callWith_builtin rfl (Calls.evalArgs_plain (Calls.spliced_cons (thn (he.run pins s1 σ H1 _ I1 q1) fun iv s2 ⟨y, H2, I2, ry, q2⟩ =>
    Calls.spliced_cons (thn (hf.run pins s2 σ H2 _ I2 q2) fun fv s3 ⟨z, H3, I3, rz, M, ds, kd, vd, l, el, ⟨l', o, el', hl, g, sm⟩, rk, hkf, hz, rv, w1, w2⟩ => Calls.spliced_nil ?_))))
  cases el
  cases el'
  exact dd_setd (by omega) I3 sm hl g hz rk ry hkf rv rz (fun d v' w' s' e I' rw' rp => ⟨v', H3, I', rw', w1 d v' e rp⟩) fun o' w' s' e I' rw' g' => ⟨z, _, I', rw', w2 o' e g'⟩
theorem ce_setd (n : Bool) (hu : X.A.units + 64 < cLine) (hp : PtE X a p) (ok : POk X.K ms p) (hk : RO X ms b f) (hv : RO X ms c g) (m : M2 X a "setdefault" apos b c cpos := by exact ⟨rfl, rfl, rfl, rfl⟩) (hs : shAt ms p = some (dkSh n) := by rfl) : CE X W ms (.Call (.Attribute a "setdefault" apos) [b, c] [] cpos) (eSetd n p f g) :=
  (pe_setdD (n := n) hu hp hk hv m).weak fun σ H Q ⟨r, O, G, R, h⟩ => by
    unfold eSetd at h
    split at h
    · rename_i ds kd vd e1 e2 e3
      split at h
      · rename_i hc
        rw [Bool.and_eq_true, decide_eq_true_eq] at hc
        obtain ⟨x, ds', vp, ed, da⟩ := R.dct ok e1 hs
        cases ed
        obtain ⟨l, o, rfl, hl, g0, sm⟩ := id da
        refine ⟨_, vp, ⟨_, ds, da⟩, r, O, G, R, kd, e2, fun y H2 s2 rk => ⟨r, O, G, R.same s2, vd, e3, fun z H3 s3 rv => ?_⟩⟩
        have s23 := s2.trans s3
        have R3 := R.same s23
        refine ⟨_, ds, kd, vd, l, rfl, da.same s23, rk.mono (msk_same s3), hc.1, hc.2, rv, fun d v' e rp => ?_, fun o' e g' => ?_⟩
        · rw [e] at h
          exact h v' H3 O R3 (.same s23 R.tr) rp
        · rw [e] at h
          obtain ⟨O4, R4, E4⟩ := R3.dctSet ok e1 hs (vp.same s23) (da.same s23) g'
          exact h z _ O4 R4 ((Ext.same s23 R.tr).trans E4) (rv.mono E4.sm)
      · exact False.elim h
    · exact False.elim h
theorem pe_get2D {n : Bool} {td ty tx : TE} (hu : X.A.units + 64 < cLine) (ho : PE X a td) (he : PE X b ty) (hf : PE X c tx) (m : M2 X a "get" apos b c cpos) : PE X (.Call (.Attribute a "get" apos) [b, c] [] cpos) (fun σ H Q => td σ H fun x H1 => (∃ M ds, DAt X n M H1 x ds) ∧ ty σ H1 fun y H2 => tx σ H2 fun z H3 =>
    ∃ M ds kd vd, DAt X n M H3 x ds ∧ Rep X.K M y kd ∧ keyFit n kd = true ∧ Rep X.K M z vd ∧ ∀ v', Rep X.K M v' ((valD ds kd).getD vd) → Q v' H3) := by
  refine ⟨fun pins s σ H Q I h => ?_⟩
  refine wpAny_Call_method m.base m.few m.line PySem.F.plainAttrs_dict PySem.F.slot_dict_get PySem.F.type_dict_get (thn (ho.run pins s σ H _ I h) fun u s1 ⟨x, H1, I1, rx, ⟨M0, ds0, l0, o0, e0, hl0, g0, sm0⟩, q1⟩ => ?_)
  subst e0
  obtain rfl : u = Value.ref l0 := rx
  refine ⟨dd_typeIs I1 sm0 hl0 g0, dd_noDict I1 sm0 hl0 g0, ?_⟩
  rw [m.trees]
  refine Calls.callWith_builtin rfl (Calls.evalArgs_plain (Calls.spliced_cons (thn (he.run pins s1 σ H1 _ I1 q1) fun iv s2 ⟨y, H2, I2, ry, q2⟩ =>
    Calls.spliced_cons (thn (hf.run pins s2 σ H2 _ I2 q2) fun fv s3 ⟨z, H3, I3, rz, M, ds, kd, vd, ⟨l', o, el', hl, g, sm⟩, rk, hkf, rv, w1⟩ => Calls.spliced_nil ?_))))
  cases el'
  exact dd_get2 (by omega) I3 sm hl g rk ry hkf rv rz fun v' w' s' I' rw' rp => ⟨v', H3, I', rw', w1 v' rp⟩
theorem ro_get2 (n : Bool) (hu : X.A.units + 64 < cLine) (hp : PtE X a p) (ok : POk X.K ms p) (hk : RO X ms b f) (hv : RO X ms c g) (m : M2 X a "get" apos b c cpos := by exact ⟨rfl, rfl, rfl, rfl⟩) (hs : shAt ms p = some (dkSh n) := by rfl) : RO X ms (.Call (.Attribute a "get" apos) [b, c] [] cpos) (rDgetO n p f g) :=
  (pe_get2D (n := n) hu hp hk hv m).weak fun σ H Q ⟨r, O, G, R, d, h, q⟩ => by
    unfold rDgetO at h
    split at h
    · rename_i ds kd vd e1 e2 e3
      obtain ⟨hc, rfl⟩ := ite_some h
      obtain ⟨x, ds', vp, ed, da⟩ := R.dct ok e1 hs
      cases ed
      refine ⟨_, vp, ⟨_, ds, da⟩, r, O, G, R, kd, e2, fun y H2 s2 rk => ⟨r, O, G, R.same s2, vd, e3, fun z H3 s3 rv => ?_⟩⟩
      have s23 := s2.trans s3
      exact ⟨_, ds, kd, vd, da.same s23, rk.mono (msk_same s3), hc, rv, fun v' rp => q v' H3 s23 rp⟩
    · cases h
end
end DL
end

section
set_option maxHeartbeats 1000000
namespace DL
open PySem PySem.Spec PyProof.Rows L2
/-! ## dict comprehensions, keys of either kind -/
theorem dd_dictSet {X : Cx} {pins : List (Addr × Obj)} {σ : L2.St} {H M : Hp} {s : Shared} {E : Value → Shared → Prop} {l : Addr} {n : Bool} {o : HO} {ds : List (D × D)} {y v : V} {kd d : D} {u r : Value} {Q : Unit → Shared → Prop} (hu : X.A.units + 9 < cLine) (I : Inv X pins σ H s) (sm : Same M H) (e : H l = some o) (g : DRepO n X.w X.K M l o ds) (hl : ds.length < sizeLine) (rk : Rep X.K M y kd) (ry : RelV y u) (hf : keyFit n kd = true) (rd : Rep X.K M v d) (rv : RelV v r)
    (h : ∀ o' s', Inv X pins σ (upd H l o') s' → DRepO n X.w X.K M l o' (putD ds kd d) → Q () s') : wpAny (model X.prog X.w) X.A (dictSet l u r) Q E s := by
  cases n with
  | false =>
    obtain ⟨kvs, rfl, rr⟩ := g
    obtain ⟨k, rfl⟩ := fitK hf
    obtain rfl := rk.kV
    exact d_dictSet I e (by rw [rr.len]; exact hl) ry rv fun s' I' => h _ s' I' ⟨_, rfl, rr.put rd⟩
  | true =>
    obtain ⟨xs, rfl, rr⟩ := g
    obtain ⟨ks, k, rfl, ek, e8⟩ := fitN hf
    obtain ⟨b, zs, rfl, _⟩ := rk.tupI
    cases (show u = Value.ref b from ry)
    obtain ⟨z, hd, ys, pn, dd⟩ := dn_of I sm e rr
    have hk : (nestedKind X.prog X.w).is s.heap (.tup k) b := ⟨Rep.key I (rk.mono sm) rfl (by show (keysOf ks).map _ = _; rw [ek]; rfl), e8⟩
    refine wpAny_dictSet_heap (knd := nestedKind X.prog X.w) (hsz := by rw [← Paired.length pn]; exact z) (show X.A.units + 8 < cLine by omega) hk dd fun h' dd' hs => ?_
    exact h _ _ (dn_put I e (by rw [rr.len]; exact hl) hd (pn.put rv) dd' hs _) ⟨_, rfl, rr.put rk ek e8 rd⟩
/-- what is read: L the new dict -/
def tDcN (X : Cx) (n : Bool) (wi : TI) (g : TG) (tt : TT) (tk tv : TE) (vs : List Nat) : TE := fun σ H Q => wi σ H fun J H1 => ∀ L, H1 L = none → ∃ W : Nat → Nat → Hp → Prop, (∃ m, W 0 m (upd H1 L (dNew n X.w L))) ∧ ∀ i m H, W i m H →
  (J.stop i H ∧ Q (.ref L) H) ∨ (J.go i H ∧ ∃ Nx : Hp → Prop, (∀ H', Nx H' → ∃ m', m' < m ∧ W (i + 1) m' H') ∧ ∀ x H', J.yld i H x H' → g x (wipe σ vs) H' fun σ2 H2 => wipe σ2 vs = wipe σ vs ∧ tt σ2 H2 fun b H3 =>
    if b = true then tk σ2 H3 fun y H4 => tv σ2 H4 fun z H5 => ∃ M o ds kd d, H5 L = some o ∧ DRepO n X.w X.K M L o ds ∧ Same M H5 ∧ ds.length < sizeLine ∧ Rep X.K M y kd ∧ keyFit n kd = true ∧ Rep X.K M z d ∧ ∀ o', DRepO n X.w X.K M L o' (putD ds kd d) → Nx (upd H5 L o') else Nx H3)
section
variable {X : Cx}
theorem dNew_obj {P : Program} {H : Hp} (n : Bool) (h : Heap) (hb : sysModules < h.objs.size) (w : World) : ObjOk P w H (h.push { cls := .type "dict", data := .dict #[] }) h.objs.size (dNew n w h.objs.size) := by
  cases n
  · exact dk_empty h hb
  · exact dn_empty h hb w
theorem dcN_core {n : Bool} (hu : X.A.units + 64 < cLine) {pins : List (Addr × Obj)} {s : Shared} {σ : L2.St} {H : Hp} {Q : VK} {kx vx tg iter : Expr} {ifs : List Expr} {scope : Scope} {own : List (Str × Nat)} {pos pos' : Pos} {wi : TI} {g : TG} {tt : TT} {tk tv : TE} {use : Option (Value → Sem Unit)} {Qf : Value → Shared → Prop}
    (hc : X.calm = true) (hN : X.N.Nodup) (I : Inv X pins σ H s) (hi : PI X tg iter wi) (ok : BlkOk X.N X.env.scope scope own)
    (hg : ∀ (s : Shared) (H : Hp) (C : Addr) (cl : List (Str × Addr)) (fp : List Addr), PG (X.blk s H scope (compEnvC scope cl C X.env) fp) tg g) (ht : ∀ (s : Shared) (H : Hp) (C : Addr) (cl : List (Str × Addr)) (fp : List Addr), PTs (X.blk s H scope (compEnvC scope cl C X.env) fp) ifs tt) (hk : ∀ (s : Shared) (H : Hp) (C : Addr) (cl : List (Str × Addr)) (fp : List Addr), PE (X.blk s H scope (compEnvC scope cl C X.env) fp) kx tk)
    (he : ∀ (s : Shared) (H : Hp) (C : Addr) (cl : List (Str × Addr)) (fp : List Addr), PE (X.blk s H scope (compEnvC scope cl C X.env) fp) vx tv) (hs : ∀ x, foldedSetIterable iter X.env x = pure x) (h : tDcN X n wi g tt tk tv (own.map (·.2)) σ H Q)
    (hRR : ∀ L C s' m H', Inv X pins σ H' s' → Q (.ref L) H' → s'.heap.Ns C m → FpOk X pins H' C → compPost (model X.prog X.w) X.A X.xe use Qf (.ref L) C (.ok .next) s') : wpAny (model X.prog X.w) X.A (comprehension (.DictComp kx vx [⟨tg, iter, ifs, 0⟩] scope pos) scope X.env pos' newDict false (eval iter X.env) use) Qf X.xe s := by
  have free : ∀ y ∈ scope.names, y.2 = .free → ∃ c, X.env.cells.lookup y.1 = some c := fun y hy e => (ok.free y hy e).elim (fun k => I.ok.has _ (.inl k)) fun k => I.ok.has _ (.inr k)
  refine wpAny_comprehension_free (use := use) rfl hs (closure_ok free) ok.kind (fun y hy e => by rw [ok.uniq y hy, e]) (thn (hi.run pins s σ H _ I h) fun xv s1 hx => thn hx fun itv s2 ⟨it, fp, tn, J, H2, e, I2, T, st2, f2, q⟩ => ?_)
  subst e
  refine wpAny_newObj_type (newEnv_comp ?_)
  generalize eL : s2.heap.objs.size = L
  obtain ⟨W, ⟨m0, w0⟩, turn⟩ := q L (I2.hok.fresh (Nat.le_of_eq eL))
  generalize es3 : ({ s2 with heap := s2.heap.push { cls := .type "dict", data := .dict #[] } } : Shared) = s3
  have h3 : s3.heap = s2.heap.push { cls := .type "dict", data := .dict #[] } := by rw [← es3]
  have I3 : Inv X pins σ (upd H2 L (dNew n X.w L)) s3 := by
    rw [← es3]
    refine I2.laid (t' := s2.toks) (fun b o e => Heap.get?_push_of_some _ e) (Nat.le_of_eq eL) ?_
    rw [← eL]
    exact dNew_obj n s2.heap I2.big X.w
  have sz : ∀ b ∈ fp, b < s2.heap.objs.size := fun b hb => let ⟨o, e, _⟩ := T.obj _ _ st2 b hb; Heap.lt_size e
  have f3 : ∀ b ∈ fp, FpOk X pins (upd H2 L (dNew n X.w L)) b ∧ b < s3.heap.objs.size := fun b hb => ⟨⟨by rw [upd_ne (by rw [← eL]; exact Nat.ne_of_lt (sz b hb))]; exact (f2 b hb).1, (f2 b hb).2⟩, by rw [h3, Heap.size_push]; exact Nat.lt_succ_of_lt (sz b hb)⟩
  have st3 : tn 0 s3.heap := T.keep _ _ _ st2 fun b _ o e => by rw [h3]; exact Heap.get?_push_of_some _ e
  have I4 := block_start I3 ok hN f3
  generalize eH3 : upd H2 L (dNew n X.w L) = H3 at I3 I4 w0 f3
  have nfp : ∀ b ∈ fp, H3 b = none := fun b hb => (f3 b hb).1.1
  generalize ecl : cellsFrom (s3.heap.objs.size + 1) scope.names (cloFrom X.env.cells scope.names []) = cl at I4
  have pg := hg s3 H3 s3.heap.objs.size cl fp
  have pt := ht s3 H3 s3.heap.objs.size cl fp
  have pk := hk s3 H3 s3.heap.objs.size cl fp
  have pe := he s3 H3 s3.heap.objs.size cl fp
  have goal : codeAny (model X.prog X.w) X.A (.compStart (.DictComp kx vx [⟨tg, iter, ifs, 0⟩] scope pos) 0 (.ref it) (.ref L) (compEnvC scope cl s3.heap.objs.size X.env)) (compPost (model X.prog X.w) X.A X.xe use Qf (.ref L) s3.heap.objs.size) { s3 with heap := pushCells (s3.heap.push { cls := .type "dict", data := .dict #[] }) scope.names } := by
    generalize ece : compEnvC scope cl s3.heap.objs.size X.env = ce at I4 pg pt pk pe ⊢
    have cL : ce.locals = s3.heap.objs.size := by subst ece; rfl
    generalize es4 : ({ s3 with heap := pushCells (s3.heap.push { cls := .type "dict", data := .dict #[] }) scope.names } : Shared) = s4 at I4 ⊢
    have st4 : tn 0 s4.heap := T.keep _ _ _ st3 fun b _ o e => by rw [← es4]; exact pushCells_keeps _ _ _ _ (Heap.get?_push_of_some _ e)
    have stat : ∀ {σ' : L2.St} {H' : Hp} {s' : Shared}, Inv (X.blk s3 H3 scope ce fp) [] σ' H' s' → (∀ b ∈ fp, H' b = none) → ∀ b ∈ fp, FpOk (X.blk s3 H3 scope ce fp) [] H' b := fun {σ' H' s'} I' hn b hb => ⟨hn b hb, (I'.ok.exf b hb).1, I'.ok.exfs b hb, .inl hb, fun x c e => (I'.ok.exf b hb).2 x c e, fun p hp => absurd (show p ∈ ([] : List (Addr × Obj)) ++ [] from hp) (by simp)⟩
    have loop : codeAny (model X.prog X.w) X.A (.compLoop (.DictComp kx vx [⟨tg, iter, ifs, 0⟩] scope pos) 0 (.ref it) (.ref L) ce) (compPost (model X.prog X.w) X.A X.xe use Qf (.ref L) s3.heap.objs.size) s4 := by
      refine compLoop_anyD (fun m s' => ∃ i H', Inv (X.blk s3 H3 scope ce fp) [] (wipe σ (own.map (·.2))) H' s' ∧ tn i s'.heap ∧ (∀ b ∈ fp, H' b = none) ∧ W i m H') ?_ m0 ⟨0, H3, I4, st4, nfp, w0⟩
      rintro m s5 ⟨i, H5, I5, st5, n5, w5⟩
      rcases turn i m H5 w5 with ⟨stop, qq⟩ | ⟨go, Nx, hNx, step⟩
      · refine thnF (T.done (X.blk s3 H3 scope ce fp) rfl rfl rfl hc i [] s5 _ H5 (fun _ _ => False) I5 (stat I5 n5) st5 stop) fun r s6 ⟨hr, I6⟩ => ?_
        subst hr
        have I7 : Inv X pins σ H5 s6 := I3.call' (ch := fp) I6.os I6.base I6.hok I6.bare fun b hb => ⟨(f3 b hb).1.2.2.2.1, (f3 b hb).1.2.1, (f3 b hb).1.2.2.2.2.1, (f3 b hb).1.2.2.2.2.2⟩
        have nC : H5 s3.heap.objs.size = none := by have z : H5 ce.locals = none := I6.free; rw [cL] at z; exact z
        obtain ⟨mm, hn, _⟩ := I6.loc
        have hn : s6.heap.Ns ce.locals mm := hn
        rw [cL] at hn
        exact hRR L s3.heap.objs.size s6 mm H5 I7 qq hn (I3.fpOk (Nat.le_refl _) nC)
      · refine thnF (T.item (X.blk s3 H3 scope ce fp) rfl rfl rfl hc i [] s5 _ H5 (fun _ _ => False) I5 (stat I5 n5) st5 go) fun r s6 ⟨u, hr, h6⟩ => ?_
        subst hr
        refine thnF h6 fun _ s7 ⟨x, H7, I7, r7, y7, st7, n7⟩ => ?_
        have I8 := I7.pinned (stat I7 n7) (T.obj _ _ st7)
        refine thnF (pg.run _ s7 _ H7 x u _ I8 r7 (step x H7 y7)) fun _ s8 ⟨σ8, H8, I9, hw8, q8⟩ => ?_
        refine thnF (pt.run _ s8 σ8 H8 _ I9 q8) fun b s9 ⟨H9, I10, q9⟩ => ?_
        have fin : ∀ {s' : Shared} {H' : Hp}, Inv (X.blk s3 H3 scope ce fp) ([] ++ pinsAt fp s7.heap) σ8 H' s' → Nx H' → ∃ m', m' < m ∧ ∃ i H', Inv (X.blk s3 H3 scope ce fp) [] (wipe σ (own.map (·.2))) H' s' ∧ tn i s'.heap ∧ (∀ b ∈ fp, H' b = none) ∧ W i m' H' := fun {s' H'} I' nx => by
          obtain ⟨m', hm, w'⟩ := hNx H' nx
          have pin' : ∀ b ∈ fp, ∀ o, s7.heap.get? b = some o → s'.heap.get? b = some o ∧ H' b = none := fun b hb o e =>
            let z := I'.pin (b, o) (List.mem_append_right _ (List.mem_append_right _ (mem_pinsAt hb e))); ⟨z.1, z.2.1⟩
          refine ⟨m', hm, i + 1, H', (I'.unpinned (pins := [])).weak (by rw [← hw8, wipe_length]) (fun j v e => ?_), T.keep _ _ _ st7 fun b hb o e => (pin' b hb o e).1, fun b hb => ?_, w'⟩
          · rw [← hw8] at e; exact (wipe_some e).1
          · obtain ⟨o, e, _⟩ := T.obj _ _ st7 b hb; exact (pin' b hb o e).2
        cases b with
        | false => simp only [Bool.false_eq_true, if_false] at q9 ⊢; exact fin I10 q9
        | true =>
          simp only [if_true] at q9 ⊢
          refine thnF (pk.run _ s9 σ8 H9 _ I10 q9) fun z s10 ⟨yk, H10, I11, r10, q10⟩ => ?_
          refine thnF (pe.run _ s10 σ8 H10 _ I11 q10) fun z2 s11 ⟨yv, H11, I12, r11, M, o, ds, kd, d, hL, g0, sm, hz, rk, hf, rd, nx⟩ => ?_
          exact dd_dictSet (X := X.blk s3 H3 scope ce fp) (n := n) (show X.A.units + 9 < cLine by omega) I12 sm hL g0 hz rk r10 hf rd r11 fun o' s12 I13 g' => fin I13 (nx o' g')
    exact codeAny_compStart_dict loop (T.self X.A 0 _ _ _ st4 loop)
  subst ecl
  exact goal
theorem pe_dcN (n : Bool) (hu : X.A.units + 64 < cLine) {kx vx tg iter : Expr} {ifs : List Expr} {scope : Scope} {own : List (Str × Nat)} {pos : Pos} {wi : TI} {g : TG} {tt : TT} {tk tv : TE} (hc : X.calm = true) (hN : X.N.Nodup) (hi : PI X tg iter wi) (ok : BlkOk X.N X.env.scope scope own)
    (hg : ∀ (s : Shared) (H : Hp) (C : Addr) (cl : List (Str × Addr)) (fp : List Addr), PG (X.blk s H scope (compEnvC scope cl C X.env) fp) tg g) (ht : ∀ (s : Shared) (H : Hp) (C : Addr) (cl : List (Str × Addr)) (fp : List Addr), PTs (X.blk s H scope (compEnvC scope cl C X.env) fp) ifs tt) (hk : ∀ (s : Shared) (H : Hp) (C : Addr) (cl : List (Str × Addr)) (fp : List Addr), PE (X.blk s H scope (compEnvC scope cl C X.env) fp) kx tk)
    (he : ∀ (s : Shared) (H : Hp) (C : Addr) (cl : List (Str × Addr)) (fp : List Addr), PE (X.blk s H scope (compEnvC scope cl C X.env) fp) vx tv) (hs : ∀ x, foldedSetIterable iter X.env x = pure x := by intro _; rfl) : PE X (.DictComp kx vx [⟨tg, iter, ifs, 0⟩] scope pos) (tDcN X n wi g tt tk tv (own.map (·.2))) := by
  refine ⟨fun pins s σ H Q I h => ?_⟩
  rw [arm_eval_DictComp]
  refine dcN_core hu hc hN I hi ok hg ht hk he hs h fun L C s' m H' I' q hn ⟨f0, f1, f2, f3, f4, f5⟩ => ⟨m, hn, fun h'' sb => ?_⟩
  exact ⟨.ref L, H', I'.turned (t' := s'.toks) (fun b o hb e => (sb.2 b hb).trans e) f0 f1 f3 f4 f5, rfl, q⟩
end
end DL
end

section
set_option maxHeartbeats 1000000
namespace DL
open PySem PySem.Spec PyProof.Rows L2
/-! ## dict comprehensions, by data -/
def dcompL (n : Bool) (vs : List Nat) (k : D → Rho → Option Rho) (t : Rho → R Bool) (fk fv : Rho → R D) : List D → Rho → List (D × D) → R (List (D × D))
  | [], r, acc => .ok acc r
  | d :: ds, r, acc => match k d r with
    | none => .bad
    | some r1 => (t r1).noX.bind fun b r2 => if b = true then (fk r2).noX.bind fun kd r3 => (fv r3).noX.bind fun vd r4 => if (keyFit n kd && decide (acc.length < sizeLine)) = true then dcompL n vs k t fk fv ds (wipeR r4 vs) (putD acc kd vd) else .bad
      else dcompL n vs k t fk fv ds (wipeR r2 vs) acc
def eDcomp (n : Bool) (vs : List Nat) (i : Rho → R (List D)) (k : D → Rho → Option Rho) (t : Rho → R Bool) (fk fv : Rho → R D) : Rho → R D := fun r => (i r).bind fun ds r1 => (dcompL n vs k t fk fv ds (wipeR r1 vs) []).bind fun ys r2 => .ok (.dict ys) (restR r1 r2 vs)
section
variable {X : Cx} {W : WX} {ms : Ms} {rs : Shp} {tg : Expr} {σ : L2.St} {H : Hp}
theorem dc_read {n : Bool} {X2 : Cx} (eW : X2.w = X.w) (eK : X2.K = X.K) (eN : X2.N = X.N) {i : Rho → R (List D)} {is vs : List Nat} {k : D → Rho → Option Rho} {gt : TG} {t : Rho → R Bool} {fk fv : Rho → R D} (hvs : ∀ i ∈ vs, (ms i).sh = .pur) (his : ∀ i ∈ is, i ∈ vs) (hg : CG X2 ms tg is k gt)
    {Q : VK} (hl : σ.length = X.N.length) (h : tEo X W ms (dkSh n) (eDcomp n vs i k t fk fv) σ H Q) : tDcN X n (tI X W ms i) gt (tT X2 W0 ms t) (tE X2 W0 ms fk) (tE X2 W0 ms fv) vs σ H Q := by
  obtain ⟨r, O, G, R, h⟩ := h
  unfold eDcomp at h
  rw [on_bind] at h
  refine tI_step R h fun ds r1 J H1 O1 h1 R1 E1 wk L hL => ?_
  obtain ⟨Rg, Eg⟩ := R1.guard (o := dNew n X.w L) hL
  have Rw : Rel X.w X.K ms (wipe σ vs) (upd H1 L (dNew n X.w L)) (wipeR r1 vs) O1 (GA [L] G) := Rg.wipe hvs
  rw [on_bind] at h1
  let Z : Rho → List (D × D) → Prop := fun r' a => ∀ v H' O' A, Rel X.w X.K ms σ H' (restR r1 r' vs) O' (GA A G) → Ext H O G H' O' (GA A G) → (∀ a_2 ∈ A, ¬G a_2) → RepS X.w X.K (msk H' (Ow O' (GA A G))) H' (dkSh n) v (PyData.dict a) A → Q v H'
  refine ⟨fun j m H2 => ∃ r2 O2 o ys, m = ds.length - j ∧ j ≤ ds.length ∧ Rel X.w X.K ms (wipe σ vs) H2 r2 O2 (GA [L] G) ∧ Ext H1 O1 G H2 O2 (GA [L] G) ∧ H2 L = some o ∧ DRepO n X.w X.K (msk H2 (Ow O2 (GA [L] G))) L o ys ∧
      (dcompL n vs k t fk fv (ds.drop j) r2 ys).on (fun a r' => Z r' a) (fun _ _ _ => True),
    ⟨ds.length, wipeR r1 vs, O1, _, [], by simp, Nat.zero_le _, Rw, Eg, upd_same, dNew_rep, by rw [List.drop_zero]; exact h1.mono (fun _ _ z => z) fun _ _ _ _ => trivial⟩, ?_⟩
  rintro j m H2 ⟨r2, O2, o, ys, rfl, hn, R2, E2, hacc, racc, h2⟩
  have sm2 : Same (msk H1 (Ow O1 G)) (msk H2 (Ow O2 (GA [L] G))) := E2.sm
  obtain ⟨w1, w2⟩ := wk H2 (Ow O2 (GA [L] G)) sm2 R2.trO
  by_cases hlt : j < ds.length
  · obtain ⟨d, ed, edr⟩ := drop_cons hlt
    obtain ⟨go, yl⟩ := w1 j d ed
    refine .inr ⟨go, fun H' => ∃ r' O' o' ys', Rel X.w X.K ms (wipe σ vs) H' r' O' (GA [L] G) ∧ Ext H1 O1 G H' O' (GA [L] G) ∧ H' L = some o' ∧ DRepO n X.w X.K (msk H' (Ow O' (GA [L] G))) L o' ys' ∧ (dcompL n vs k t fk fv (ds.drop (j + 1)) r' ys').on (fun a r' => Z r' a) (fun _ _ _ => True),
      fun H' ⟨r', O', o', ys', a1, a2, a3, a4, a5⟩ => ⟨ds.length - (j + 1), by omega, r', O', o', ys', rfl, by omega, a1, a2, a3, a4, a5⟩, fun x H3 y => ?_⟩
    obtain ⟨sm3, rp⟩ := yl x H3 y
    have R3 := R2.same sm3
    have E3 : Ext H2 O2 (GA [L] G) H3 O2 (GA [L] G) := .same sm3 R2.tr
    rw [edr] at h2
    unfold dcompL at h2
    cases ek : k d r2 with
    | none => rw [ek] at h2; exact False.elim h2
    | some r4 =>
      rw [ek] at h2
      have hlw : (wipe σ vs).length = X2.N.length := by rw [wipe_length, eN]; exact hl
      refine hg.2 (σ := wipe σ vs) (H := H3) (r := r2) (O := O2) (G := GA [L] G) (by rw [eW, eK]; exact R3) hlw (by rw [eK]; exact rp) ek fun σ4 R4 F4 o4 => ?_
      have hw4 : wipe σ4 vs = wipe σ vs := (wipe_eq F4.len fun j hj => o4 j fun z => hj (his j z)).trans wipe_wipe
      refine ⟨hw4, ?_⟩
      simp only at h2
      rw [on_bind] at h2
      refine tT_step R4 (noX_on h2) fun b r5 H5 O5 h5 R5 E5 => ?_
      have hD5 : H5 L = some o := by
        rw [(E5.gh L (.inl List.mem_cons_self)).2]
        exact sm3 L _ hacc
      cases b with
      | false =>
        rw [if_neg (by decide)] at h5 ⊢
        have Rz := R5.wipe hvs
        rw [hw4, eW, eK] at Rz
        exact ⟨_, O5, o, ys, Rz, E2.trans (E3.trans E5), hD5, racc.mono (E3.sm.trans E5.sm), h5⟩
      | true =>
        rw [if_pos rfl] at h5 ⊢
        rw [on_bind] at h5
        refine tE_step R5 (noX_on h5) fun kd r6 yk H6 O6 h6 R6 E6 p6 => ?_
        have hD6 : H6 L = some o := by
          rw [(E6.gh L (.inl List.mem_cons_self)).2]
          exact hD5
        rw [on_bind] at h6
        refine tE_step R6 (noX_on h6) fun vd r7 yv H7 O7 h7 R7 E7 p7 => ?_
        have hD7 : H7 L = some o := by
          rw [(E7.gh L (.inl List.mem_cons_self)).2]
          exact hD6
        have racc7 := racc.mono (E3.sm.trans (E5.sm.trans (E6.sm.trans E7.sm)))
        split at h7
        · rename_i hc
          rw [Bool.and_eq_true, decide_eq_true_eq] at hc
          rw [eK] at p6 p7
          refine ⟨msk H7 (Ow O7 (GA [L] G)), o, ys, kd, vd, hD7, racc7, msk_sub, hc.2, p6.mono E7.sm, hc.1, p7, fun o' g' => ?_⟩
          have hWD : Ow O7 (GA [L] G) L := .inl (.inl List.mem_cons_self)
          have me : msk (upd H7 L o') (Ow O7 (GA [L] G)) = msk H7 (Ow O7 (GA [L] G)) := by
            funext b
            by_cases q : Ow O7 (GA [L] G) b
            · rw [msk_in q, msk_in q]
            · rw [msk_out q, msk_out q, upd_ne (fun z => q (by rw [z]; exact hWD))]
          have Rz := R7.wipe hvs
          rw [hw4, eW, eK] at Rz
          have nD : ∀ i, L ∉ O7 i := fun i z => R7.dG i L z (.inl List.mem_cons_self)
          have Ru : Rel X.w X.K ms (wipe σ vs) (upd H7 L o') (wipeR r7 vs) O7 (GA [L] G) := by
            refine ⟨Rz.len, fun i d e => ?_, Rz.emp, fun b g => ?_, Rz.dj, Rz.dG⟩
            · obtain ⟨v, e1, rs⟩ := Rz.slot i d e
              rw [me]
              refine ⟨v, e1, rs.mono (Same.refl _) fun b hb o z => ?_⟩
              rw [upd_ne (fun z2 => nD i (by rw [← z2]; exact hb))]
              exact z
            · by_cases q : b = L
              · rw [q, upd_same]; exact fun z => nomatch z
              · rw [upd_ne q]; exact Rz.tr b g
          refine ⟨_, O7, o', putD ys kd vd, Ru, ?_, upd_same, by rw [me]; exact g', h7⟩
          have E27 := E2.trans (E3.trans (E5.trans (E6.trans E7)))
          refine ⟨by rw [me]; exact E27.sm, fun b g => ⟨.inr g, ?_⟩⟩
          rw [upd_ne (fun z => R1.tr b g (by rw [z]; exact hL))]
          exact (E27.gh b g).2
        · exact False.elim h7
  · have e : j = ds.length := by omega
    subst e
    rw [List.drop_length] at h2
    refine .inl ⟨w2, ?_⟩
    have E12 : Ext H O G H2 O2 (GA [L] G) := E1.trans E2
    exact h2 (.ref L) H2 O2 [L] (Rel.rest R2 rfl R1 hvs E2) E12 (fun a ha g => R1.tr a g (by rw [List.mem_singleton.mp ha]; exact hL)) (racc.toS hacc)
theorem ceo_dc (n : Bool) (hu : X.A.units + 64 < cLine) {kx vx iter : Expr} {ifs : List Expr} {scope : Scope} {own : List (Str × Nat)} {pos : Pos} {i : Rho → R (List D)} {is vs : List Nat} {k : D → Rho → Option Rho} {gt : TG} {t : Rho → R Bool} {fk fv : Rho → R D} (hc : X.calm = true) (hN : X.N.Nodup) (hi : CI X W ms tg iter i) (ok : BlkOk X.N X.env.scope scope own)
    (hg : ∀ (s : Shared) (H : Hp) (C : Addr) (cl : List (Str × Addr)) (fp : List Addr), CG (X.blk s H scope (compEnvC scope cl C X.env) fp) ms tg is k gt)
    (ht : ∀ (s : Shared) (H : Hp) (C : Addr) (cl : List (Str × Addr)) (fp : List Addr), PTs (X.blk s H scope (compEnvC scope cl C X.env) fp) ifs (tT (X.blk s H scope (compEnvC scope cl C X.env) fp) W0 ms t))
    (hk : ∀ (s : Shared) (H : Hp) (C : Addr) (cl : List (Str × Addr)) (fp : List Addr), CE (X.blk s H scope (compEnvC scope cl C X.env) fp) W0 ms kx fk)
    (he : ∀ (s : Shared) (H : Hp) (C : Addr) (cl : List (Str × Addr)) (fp : List Addr), CE (X.blk s H scope (compEnvC scope cl C X.env) fp) W0 ms vx fv)
    (hv : own.map (·.2) = vs := by rfl) (hvs : ∀ i ∈ vs, (ms i).sh = .pur := by decide) (his : ∀ i ∈ is, i ∈ vs := by decide) (hs : ∀ x, foldedSetIterable iter X.env x = pure x := by intro _; rfl) :
    CEo X W ms (dkSh n) (.DictComp kx vx [⟨tg, iter, ifs, 0⟩] scope pos) (eDcomp n vs i k t fk fv) := by
  subst hv
  refine ⟨fun pins s σ H Q I h => ?_⟩
  exact (pe_dcN n hu (wi := tI X W ms i) (g := gt) (tt := tT X W0 ms t) (tk := tE X W0 ms fk) (tv := tE X W0 ms fv) hc hN hi ok (fun s H C cl fp => (hg s H C cl fp).1) ht hk he hs).run pins s σ H Q I
    (dc_read (X := X) (X2 := X.blk s H scope (compEnvC scope [] 0 X.env) []) rfl rfl rfl hvs his (hg s H 0 [] []) I.len h)
theorem swD_true {kx vx : Expr} {gs : List Comprehension} {scope : Scope} {pos py : Pos} {y : Str} {l : Nat} {env : Env} (hk : env.scope.kind = .function) (hy : env.scope.names.lookup y = some .local) (hl : (py.line == pos.line) = true)
    (ha : (scope.names.any fun (n, k) => n == y && (k == .local || k == .cell)) = false) : swapsWith (.DictComp kx vx gs scope pos) (some (.Name y py)) l env = pure true := by
  have h1 : env.kindOf y = some .local := hy
  have h2 : env.blockKind = .function := by simp [Env.blockKind, hk]
  show (pure (env.blockKind == .function && env.kindOf y == some .local && py.line == pos.line && !(scope.names.any fun (n, k) => n == y && (k == .local || k == .cell))) : Sem Bool) = _
  rw [h1, h2, hl, ha]
  rfl
/-- name = {..} on one line, the name a local one -/
theorem cs_setDc (n : Bool) (j : Nat) (hu : X.A.units + 64 < cLine) {y : Str} {py : Pos} {kx vx iter : Expr} {ifs : List Expr} {scope : Scope} {own : List (Str × Nat)} {pos spos : Pos} {i : Rho → R (List D)} {is vs : List Nat} {k : D → Rho → Option Rho} {gt : TG} {t : Rho → R Bool} {fk fv : Rho → R D} (hc : X.calm = true) (hN : X.N.Nodup) (hi : CI X W ms tg iter i) (ok : BlkOk X.N X.env.scope scope own)
    (hg : ∀ (s : Shared) (H : Hp) (C : Addr) (cl : List (Str × Addr)) (fp : List Addr), CG (X.blk s H scope (compEnvC scope cl C X.env) fp) ms tg is k gt)
    (ht : ∀ (s : Shared) (H : Hp) (C : Addr) (cl : List (Str × Addr)) (fp : List Addr), PTs (X.blk s H scope (compEnvC scope cl C X.env) fp) ifs (tT (X.blk s H scope (compEnvC scope cl C X.env) fp) W0 ms t))
    (hk : ∀ (s : Shared) (H : Hp) (C : Addr) (cl : List (Str × Addr)) (fp : List Addr), CE (X.blk s H scope (compEnvC scope cl C X.env) fp) W0 ms kx fk)
    (he : ∀ (s : Shared) (H : Hp) (C : Addr) (cl : List (Str × Addr)) (fp : List Addr), CE (X.blk s H scope (compEnvC scope cl C X.env) fp) W0 ms vx fv)
    (hy : X.N[j]? = some y := by rfl) (hyl : X.env.scope.names.lookup y = some .local := by rfl) (hf : (ms j).fx = false := by rfl)
    (hsw : swapsWith (.DictComp kx vx [⟨tg, iter, ifs, 0⟩] scope pos) (some (.Name y py)) spos.line X.env = pure true := by exact swD_true rfl rfl rfl (by decide +kernel))
    (hv : own.map (·.2) = vs := by rfl) (hvs : ∀ i ∈ vs, (ms i).sh = .pur := by decide) (his : ∀ i ∈ is, i ∈ vs := by decide) (hs : ∀ x, foldedSetIterable iter X.env x = pure x := by intro _; rfl)
    (hsh : (ms j).sh = dkSh n := by rfl) : CS X W ms rs (.Assign [.Name y py] (.DictComp kx vx [⟨tg, iter, ifs, 0⟩] scope pos) spos) (sSet j (eDcomp n vs i k t fk fv)) := by
  subst hv
  refine ⟨fun pins s σ H E I h => ?_⟩
  rw [exec_Assign_Name_used _ _ _ _ hsw]
  refine wpAny_bind (wpAny_standAt (wpAny_bind ?_))
  have h2 : tDcN X n (tI X W ms i) gt (tT X W0 ms t) (tE X W0 ms fk) (tE X W0 ms fv) (own.map (·.2)) σ H fun x H1 => E.nx (σ.set j (some x)) H1 := by
    refine dc_read (X := X) (W := W) (X2 := X.blk s H scope (compEnvC scope [] 0 X.env) []) rfl rfl rfl hvs his (hg s H 0 [] []) I.len ?_
    obtain ⟨r, O, G, R, h⟩ := h
    refine tEo_step R (toS_on h) fun d r' v H' O' A q R' e' n' rp => ?_
    exact q (σ.set j (some v)) H' (updO O' j A) (R'.setOwn n' (loc_lt R' I.len hy) (by rw [hsh]; exact rp)) ⟨e'.sm.trans (msk_less fun a z => ow_ga z), fun a g => ⟨g, (e'.gh a g).2⟩⟩ (fx_set hf)
  refine wpAny_bind (thn (dcN_core hu (use := some (assign (.Name y py) X.env)) (Qf := fun _ s' => SP X pins E .next s') hc hN I hi ok (fun s H C cl fp => (hg s H C cl fp).1) ht hk he hs h2 fun L C s' m H' I' q hn ⟨f0, f1, f2, f3, f4, f5⟩ => ?_) fun _ s' hq => wpAny_pure (wpAny_pure hq))
  show wpAny _ _ (assign (.Name y py) X.env (.ref L)) _ _ _
  refine wpAny_assign_Name (store_ok2 (v := V.ref L) I' hN hy (.inl hyl) rfl (fun s2 I2 ⟨a, sb, ha⟩ => ?_) (.inr hyl))
  have haC : C ≠ a := ha.elim (fun z => by rw [z]; exact f1) fun z => fun e => f4 y a z e.symm
  exact ⟨m, hn.sameBut sb haC, fun h3 sb3 => ⟨_, H', I2.turned (t' := s2.toks) (fun b o hb e => (sb3.2 b hb).trans e) f0 f1 f3 f4 f5, q⟩⟩
end
end DL
end

section
theorem L2.Room.units64 {k : Nat} {A : PySem.Around} (r : L2.Room k A) : A.units + 64 < PySem.cLine := by have := r.un; omega
namespace DL
open PySem PySem.Spec PyProof.Rows L2 TL
/-! evaluation of what reads and writes dicts, for simp -/
variable (r : Rho) (n neg : Bool) (p : Pth) (f g k : Rho → Option D) (F G : Rho → R D) (fs : Rho → Option (List D)) (i : Nat) (d v : D) (x : Str)
@[simp] theorem v_eRO : eRO f r = .ofO (f r) r := Eq.trans rfl rfl
@[simp] theorem v_rVar : rVar i r = (r[i]?).join := Eq.trans rfl rfl
@[simp] theorem v_rPth : rPth p r = p.get r := Eq.trans rfl rfl
@[simp] theorem v_rCst : rCst d r = some d := Eq.trans rfl rfl
@[simp] theorem v_rBin (sem : D → D → Option D) : rBin sem f g r = (f r).bind fun x => (g r).bind fun y => sem x y := Eq.trans rfl rfl
@[simp] theorem v_rNil : rNil r = some [] := Eq.trans rfl rfl
@[simp] theorem v_rCons : rCons f fs r = (f r).bind fun x => (fs r).map (x :: ·) := Eq.trans rfl rfl
@[simp] theorem v_rTup : rTup fs r = (fs r).bind fun ds => if ds.length ≤ sizeLine then some (.tuple ds) else none := Eq.trans rfl rfl
@[simp] theorem v_rCall (sem : List D → Option D) : rCall sem fs r = (fs r).bind sem := Eq.trans rfl rfl
@[simp] theorem v_rpNone : rpNone r = some none := Eq.trans rfl rfl
@[simp] theorem v_rpSome : rpSome f r = match f r with
  | some (.int i) => some (some i)
  | _ => none := Eq.trans rfl rfl
@[simp] theorem v_rSl (a b : Rho → Option (Option Int)) : rSl f a b r = (f r).bind fun d => (a r).bind fun lo => (b r).bind fun hi => dSl d lo hi := Eq.trans rfl rfl
@[simp] theorem v_rDget : rDget n p f r = match p.get r, f r with
  | some (.dict ds), some k => if keyFit n k = true then valD ds k else none
  | _, _ => none := Eq.trans rfl rfl
@[simp] theorem v_rDlen : rDlen p r = match p.get r with
  | some (.dict ds) => some (.int ds.length)
  | _ => none := Eq.trans rfl rfl
@[simp] theorem v_rDgetO : rDgetO n p f g r = match p.get r, f r, g r with
  | some (.dict ds), some kd, some vd => if keyFit n kd = true then some ((valD ds kd).getD vd) else none
  | _, _, _ => none := Eq.trans rfl rfl
@[simp] theorem v_eDin : eDin n neg p F r = (F r).bind fun kd r1 => match p.get r1 with
  | some (.dict ds) => if keyFit n kd = true then .ok (.bool (if neg then !hasD ds kd else hasD ds kd)) r1 else .bad
  | _ => .bad := Eq.trans rfl rfl
@[simp] theorem v_sDput : sDput n p F f r = (F r).toS fun d r1 => match p.get r1, f r1 with
  | some (.dict ds), some kd => if (keyFit n kd && decide (ds.length < sizeLine)) = true then .nx (p.set r1 (.dict (putD ds kd d))) else .bad
  | _, _ => .bad := Eq.trans rfl rfl
@[simp] theorem v_eSetd : eSetd n p f g r = match p.get r, f r, g r with
  | some (.dict ds), some kd, some vd => if (keyFit n kd && decide (ds.length < sizeLine)) = true then (match valD ds kd with
      | some d => .ok d r
      | none => .ok vd (p.set r (.dict (putD ds kd vd)))) else .bad
  | _, _, _ => .bad := Eq.trans rfl rfl
@[simp] theorem v_eDnew : eDnew r = .ok (.dict []) r := Eq.trans rfl rfl
@[simp] theorem v_eDisp : eDisp f g r = match f r, g r with
  | some kd, some vd => if keyFit false kd = true then .ok (.dict [(kd, vd)]) r else .bad
  | _, _ => .bad := Eq.trans rfl rfl
@[simp] theorem v_eDcomp (vs : List Nat) (it : Rho → R (List D)) (t : D → Rho → Option Rho) (b : Rho → R Bool) : eDcomp n vs it t b F G r = (it r).bind fun ds r1 => (dcompL n vs t b F G ds (wipeR r1 vs) []).bind fun ys r2 => .ok (.dict ys) (restR r1 r2 vs) := Eq.trans rfl rfl
@[simp] theorem v_gets' : Pth.get r (.s i) = (r[i]?).join := Eq.trans rfl rfl
@[simp] theorem v_sets' : Pth.set r v (.s i) = r.set i (some v) := Eq.trans rfl rfl
@[simp] theorem v_getf : Pth.get r (.f i x) = match (r[i]?).join with
  | some (.dict ds) => fldD ds x
  | _ => none := Eq.trans rfl rfl
@[simp] theorem v_setf : Pth.set r v (.f i x) = match (r[i]?).join with
  | some (.dict ds) => r.set i (some (.dict (setFD ds x v)))
  | _ => r := Eq.trans rfl rfl
@[simp] theorem fit_int (z : Int) : keyFit false (.int z) = true := Eq.trans rfl rfl
@[simp] theorem fit_str (z : Str) : keyFit false (.str z) = true := Eq.trans rfl rfl
end DL
end

section
set_option maxHeartbeats 1000000
namespace DL
open PySem PySem.Spec PyProof.Rows L2
section
variable {X : Cx}
/-! xs.index(x) and xs.count(x) of what is compared as a whole -/
def mIndexD : D → List D → Option D := fun c ds => match c, ds with
  | .list cs, [y] => if (SeqAt.shaped (.list cs) && SeqAt.shaped y) = true then (cs.findIdx? fun z => PyData.eqv z y).map fun j => .int (j : Nat) else none
  | _, _ => none
theorem sm_indexD : SemM X (rIndexD X.K) mIndexD := fun x c xs ds d H W Q rc rx tr e q => by
  unfold mIndexD at e
  split at e
  · rename_i cs y
    have hz : (SeqAt.shaped (.list cs) && SeqAt.shaped y) = true := Decidable.byContradiction fun z => by
      rw [if_neg z] at e; cases e
    rw [if_pos hz] at e
    obtain ⟨h1, h2⟩ := Bool.and_eq_true_iff.mp hz
    obtain ⟨j, ej, rfl⟩ := Option.map_eq_some_iff.mp e
    obtain ⟨hj, e1, e2⟩ := List.findIdx?_eq_some_iff_getElem.mp ej
    obtain ⟨p, ys, rfl, _⟩ := rc.lstI
    cases rx with
    | cons r1 r2 =>
      cases r2
      refine ⟨p, _, y, cs, j, cs[j], rfl, rfl, rc.rep.dp, r1.rep.dp, h1, h2, List.getElem?_eq_getElem hj, e1, fun m z' hm hz' => ?_, q _ H (Same.refl _) (.int _)⟩
      obtain ⟨hm', rfl⟩ := List.getElem?_eq_some_iff.mp hz'
      simpa using e2 m hm
  · cases e
def rCountD (K : PySem.W.Frag) : V → List V → Hp → VK → Prop := fun x xs H Q => ∃ (a : Addr) (y : V) (d : PyData) (ds : List PyData), x = V.ref a ∧ xs = [y] ∧ Dp K H (V.ref a) (.list ds) ∧ Dp K H y d ∧ SeqAt.shaped (.list ds) = true ∧ SeqAt.shaped d = true ∧ Q (.int ((ds.countP fun z => PyData.eqv z d : Nat) : Int)) H
theorem mt_countD (hu : X.A.units + 65 < cLine) : MtR X "list.count" (rCountD X.K) := by
  rintro pins s σ H x xs v us Q I rx rxs ⟨a, y, d, ds, rfl, rfl, hl, hy, sl, sd, q⟩
  cases rx
  cases rxs with
  | cons ry rt =>
    rename_i uy ut
    cases rt
    obtain ⟨bs, h2⟩ := Dp.reads I d y uy hy ry
    have lay := SeqAt.canLay_of_shaped sl
    have pl : PyData.plainAll ds = true := PyData.plainAll_of_canLay0 ds lay
    cases hl with
    | lst hs ha =>
      obtain ⟨its, rv, il, hlen⟩ := I.list hs
      obtain ⟨as, h4⟩ := Dp.readsAll I ds _ its ha rv
      obtain ⟨o, n, ho, hc, hdn, hdt⟩ := il
      exact SeqAt.count_list_data ⟨o, ho, hc, n, hdt⟩ (xs := ds) h4 h2 pl (PyData.plain_of_canLay0 d (SeqAt.canLay_of_shaped sd)) (room_in_shaped sd hu) ⟨.int _, H, I.tok _, ⟨_, rfl⟩, q⟩
def mCountD : D → List D → Option D := fun c ds => match c, ds with
  | .list cs, [y] => if (SeqAt.shaped (.list cs) && SeqAt.shaped y) = true then some (.int ((cs.countP fun z => PyData.eqv z y : Nat) : Int)) else none
  | _, _ => none
theorem sm_countD : SemM X (rCountD X.K) mCountD := fun x c xs ds d H W Q rc rx tr e q => by
  unfold mCountD at e
  split at e
  · rename_i cs y
    obtain ⟨hz, rfl⟩ := ite_some e
    obtain ⟨h1, h2⟩ := Bool.and_eq_true_iff.mp hz
    obtain ⟨p, ys, rfl, _⟩ := rc.lstI
    cases rx with
    | cons r1 r2 =>
      cases r2
      exact ⟨p, _, y, cs, rfl, rfl, rc.rep.dp, r1.rep.dp, h1, h2, q _ H (Same.refl _) (.int _)⟩
  · cases e
end
end DL
end

section
set_option maxHeartbeats 1000000
namespace DL
open PySem PySem.Spec PyProof.Rows L2
/-! list(d): the keys of a dict of one's own -/
section
variable {X : Cx} {W : WX} {ms : Ms} {a : Expr} {p : Pth} {pos : Pos}
def keysV (kvs : List (NestedKey × Addr × V)) : List V := kvs.map fun x => .ref x.2.1
theorem keys_refs : ∀ {xs : List (NestedKey × Addr × V)} {ys : List (NestedKey × Addr × Value)}, PN xs ys → Vals (keysV xs) (ys.map fun y => Value.ref y.2.1)
  | _, _, .nil => .nil
  | _, _, .cons h t => .cons (congrArg Value.ref h.2.1.symm) (keys_refs t)
theorem call_listN (hcalm : X.calm = true) : CallR X (.type "list") (fun xs H Q => ∃ (a : Addr) (kvs : List (NestedKey × Addr × V)), xs = [.ref a] ∧ H a = some (dnO X.w a kvs) ∧ ∀ q, H q = none → Q (.ref q) (upd H q (.lst (keysV kvs)))) := by
  rintro pins s σ H xs us Q I r ⟨a, kvs, ex, hd, q⟩
  subst ex
  obtain ⟨u, eu, rx⟩ := vals1 r
  subst eu
  obtain rfl : u = Value.ref a := rx
  obtain ⟨⟨h1, h2, h3, ys, h4, o, es, ep, g1, g2, g3, g4⟩, _, _⟩ := (show ObjOk X.prog X.w H s.heap a (dnO X.w a kvs) from I.hok a _ hd)
  have hl : es.size = ys.length := by rw [← Array.length_toList, g4, List.length_map]
  have hk : kvs.length = ys.length := Paired.length h4
  refine PySem.W.kdl_call (kdl_raw h2 g2 g3) (I.ok.hd hcalm) g1 (by rw [hl, ← hk]; exact h1) fun h' tk acc c' keep hS hacc => ?_
  refine ⟨.ref s.heap.objs.size, upd H s.heap.objs.size (.lst (keysV kvs)), I.laid (t' := tk) keep (Nat.le_refl _) (show ObjOk X.prog X.w _ _ _ (.lst (keysV kvs)) from ⟨by unfold keysV; rw [List.length_map]; exact h1, acc.toList, c', ?_, by rw [Array.toArray_toList]; exact hS⟩), rfl, q _ (I.hok.fresh (Nat.le_refl _))⟩
  have hv := keys_refs h4
  have e : acc.toList = ys.map fun y => Value.ref y.2.1 := by
    refine List.ext_getElem? fun j => ?_
    by_cases hj : j < ys.length
    · have hja : j < acc.size := by rw [hacc.1, hl]; exact hj
      have e1 : acc[j]? = some acc[j] := Array.getElem?_eq_getElem hja
      obtain ⟨en, h5, h6⟩ := hacc.2 j _ e1
      rw [Array.getElem?_toList, e1, h6, List.getElem?_map, List.getElem?_eq_getElem hj]
      have h7 : es.toList[j]? = some en := by rw [Array.getElem?_toList]; exact h5
      rw [g4, List.getElem?_map, List.getElem?_eq_getElem hj] at h7
      cases h7
      rfl
    · rw [List.getElem?_eq_none (by rw [Array.length_toList, hacc.1, hl]; omega), List.getElem?_eq_none (by rw [List.length_map]; omega)]
  rw [e]
  exact hv
theorem RepNV.keys {K : PySem.W.Frag} {M : Hp} : ∀ {xs : List (NestedKey × Addr × V)} {ds : List (D × D)}, RepNV K M xs ds → RepAll K M (keysV xs) (ds.map (·.1))
  | _, _, .nil => .nil
  | _, _, .cons r _ _ _ t => .cons r (RepNV.keys t)
theorem rep_kV {K : PySem.W.Frag} {M : Hp} (k : Key) : Rep K M (L2.kV k) (kD k) := by
  cases k with
  | inl i => exact .int i
  | inr x => exact .str x
theorem RepKV.keys {K : PySem.W.Frag} {M : Hp} : ∀ {xs : List (Key × V)} {ds : List (D × D)}, RepKV K M xs ds → RepAll K M (xs.map fun kv => L2.kV kv.1) (ds.map (·.1))
  | _, _, .nil => .nil
  | _, _, .cons (k := k) _ t => .cons (rep_kV k) (RepKV.keys t)
def eDlist (p : Pth) : Rho → R D := fun r => match p.get r with
  | some (.dict ds) => .ok (.list (ds.map (·.1))) r
  | _ => .bad
theorem pe_listD {x : Str} {pp : Pos} {td : TE} {n : Bool} (hc : X.calm = true) (hm : X.mg x = none) (hv : bootBuiltins x = some (.type "list")) (ho : PE X a td) (hg : Gl X x := by rfl) (hn : x ≠ "__name__" := by decide) (hdb : (x == ("__debug__" : Str)) = false := by decide)
    (he : starEach [a] X.env = (false, eval a X.env) :: starEach [] X.env := by rfl) (hpl : (backTo pos (starEach [] X.env)).any (·.1) = false := by rfl) :
    PE X (.Call (.Name x pp) [a] [] pos) (tCB (fun vs H Q => ∃ x M ds, vs = [x] ∧ DAt X n M H x ds ∧ ∀ q vs', H q = none → RepAll X.K M vs' (ds.map (·.1)) → Q (.ref q) (upd H q (.lst vs'))) (tCons td tNil)) := by
  refine pe_callTy ?_ hg hm hv (pa_cons ho pa_nil he) hn hdb he hpl
  intro pins s σ H vs us Q I rv h
  obtain ⟨x, M, ds, rfl, ⟨c, o, rfl, hcc, g, sm⟩, q⟩ := h
  cases n with
  | false =>
    obtain ⟨kvs, rfl, r⟩ := g
    exact call_list_dK hc pins s σ H _ us Q I rv ⟨c, kvs, rfl, hcc, fun l hl => q l _ hl r.keys⟩
  | true =>
    obtain ⟨kvs, rfl, r⟩ := g
    exact call_listN hc pins s σ H _ us Q I rv ⟨c, kvs, rfl, hcc, fun l hl => q l _ hl r.keys⟩
theorem ceo_dlist (n : Bool) {x : Str} {pp : Pos} (hc : X.calm = true) (hm : X.mg x = none) (hv : bootBuiltins x = some (.type "list")) (hp : PtE X a p) (ok : POk X.K ms p) (hs : shAt ms p = some (dkSh n) := by rfl) (hg : Gl X x := by rfl) (hn : x ≠ "__name__" := by decide) (hdb : (x == ("__debug__" : Str)) = false := by decide)
    (he : starEach [a] X.env = (false, eval a X.env) :: starEach [] X.env := by rfl) (hpl : (backTo pos (starEach [] X.env)).any (·.1) = false := by rfl) : CEo X W ms .lst (.Call (.Name x pp) [a] [] pos) (eDlist p) :=
  (pe_listD (n := n) hc hm hv hp hg hn hdb he hpl).weak fun σ H Q ⟨r, O, G, R, h⟩ => by
    unfold eDlist at h
    split at h
    · rename_i ds e1
      obtain ⟨v, ds', vp, ed, da⟩ := R.dct ok e1 hs
      cases ed
      refine ⟨v, vp, v, _, ds, rfl, da, fun q vs' hq rv => ?_⟩
      obtain ⟨R3, E3, nn, rs⟩ := own_new R hq rv
      exact h _ _ O [q] R3 E3 nn rs
    · exact False.elim h
end
@[simp] theorem v_eDlist (p : Pth) (r : Rho) : eDlist p r = match p.get r with
  | some (.dict ds) => .ok (.list (ds.map (·.1))) r
  | _ => .bad := Eq.trans rfl rfl
end DL
end

section
namespace DL
open PySem PySem.Spec PyProof.Rows L2 TL
/-! loops that gather; loops that fold -/
theorem forE_acc {ι : Type} {k : D → Rho → Option Rho} {s : Rho → SR} (j m : ι → D) (L : Nat) (J : List D → Rho → Prop) : ∀ (ds : List ι) (acc : List D) (r : Rho), (∀ d ∈ ds, ∀ (acc : List D) (r : Rho), J acc r → acc.length < L → ∃ r1, k (j d) r = some r1 ∧ ∃ r2, s r1 = .nx r2 ∧ J (acc ++ [m d]) r2) → J acc r → acc.length + ds.length ≤ L → ∃ r', forE k s (ds.map j) r = .nx r' ∧ J (acc ++ ds.map m) r'
  | [], acc, r, _, h, _ => ⟨r, rfl, by simpa using h⟩
  | d :: ds, acc, r, hp, h, hl => by
    rw [List.length_cons] at hl
    obtain ⟨r1, e1, r2, e2, h2⟩ := hp d List.mem_cons_self acc r h (by omega)
    obtain ⟨r', e3, h3⟩ := forE_acc j m L J ds (acc ++ [m d]) r2 (fun x hx => hp x (List.mem_cons_of_mem _ hx)) h2 (by rw [List.length_append]; simp only [List.length_cons, List.length_nil]; omega)
    refine ⟨r', ?_, by simpa using h3⟩
    rw [List.map_cons]
    exact (forE_nx e1 e2).trans e3
theorem forE_fold {ι τ : Type} {k : D → Rho → Option Rho} {s : Rho → SR} (j : ι → D) (f : τ → ι → τ) (J : τ → Rho → Prop) : ∀ (ds : List ι) (a : τ) (r : Rho), (∀ d ∈ ds, ∀ (a : τ) (r : Rho), J a r → ∃ r1, k (j d) r = some r1 ∧ ∃ r2, s r1 = .nx r2 ∧ J (f a d) r2) → J a r → ∃ r', forE k s (ds.map j) r = .nx r' ∧ J (ds.foldl f a) r'
  | [], a, r, _, h => ⟨r, rfl, h⟩
  | d :: ds, a, r, hp, h => by
    obtain ⟨r1, e1, r2, e2, h2⟩ := hp d List.mem_cons_self a r h
    obtain ⟨r', e3, h3⟩ := forE_fold j f J ds (f a d) r2 (fun x hx => hp x (List.mem_cons_of_mem _ hx)) h2
    refine ⟨r', ?_, h3⟩
    rw [List.map_cons]
    exact (forE_nx e1 e2).trans e3
theorem keyEq_int (i j : Int) : keyEqD (.int i) (.int j) = decide (i = j) := by
  show decide (NestedKey.num i = NestedKey.num j) = _
  by_cases h : i = j
  · rw [h, decide_eq_true rfl, decide_eq_true rfl]
  · rw [decide_eq_false h, decide_eq_false fun z => h (by cases z; rfl)]
/-- a dict whose keys are ints -/
def dInt {β : Type} (v : β → D) (l : List (Int × β)) : List (D × D) := l.map fun p => (.int p.1, v p.2)
theorem hasD_int {β : Type} (v : β → D) (l : List (Int × β)) (i : Int) : hasD (dInt v l) (.int i) = decide (i ∈ l.map (·.1)) := by
  induction l with
  | nil => rfl
  | cons p l ih =>
    show (keyEqD (.int p.1) (.int i) || hasD (dInt v l) (.int i)) = _
    rw [keyEq_int, ih, List.map_cons, ← Bool.decide_or]
    congr 1
    rw [List.mem_cons]
    exact propext ⟨fun h => h.imp Eq.symm id, fun h => h.imp Eq.symm id⟩
theorem putD_new {β : Type} (v : β → D) (l : List (Int × β)) (i : Int) (b : β) (h : i ∉ l.map (·.1)) : putD (dInt v l) (.int i) (v b) = dInt v (l ++ [(i, b)]) := by
  unfold putD
  rw [hasD_int, decide_eq_false h, if_neg (by decide)]
  unfold dInt
  rw [List.map_append]
  rfl
/-! in a list -/
theorem any_iff {ds : List D} {d : D} (hd : nobool d = true) (hs : ∀ x ∈ ds, nobool x = true) : ((ds.any fun z => PyData.eqv z d) = true) ↔ d ∈ ds := by
  rw [List.any_eq_true]
  constructor
  · rintro ⟨x, hx, e⟩
    rw [← (eqv_iff (hs x hx) hd).mp e]
    exact hx
  · exact fun h => ⟨d, h, (eqv_iff hd hd).mpr rfl⟩
theorem dIn_fine {n w : Nat} {d : D} {ds : List D} (hd : Fine n w d) (hs : ∀ x ∈ ds, Fine n w x) (hn : n + 1 ≤ 60) (bd : nobool d = true) (bs : ∀ x ∈ ds, nobool x = true) : ∃ b, dIn d (.list ds) = some (.bool b) ∧ dNotIn d (.list ds) = some (.bool !b) ∧ (b = true ↔ d ∈ ds) := by
  have s1 := fine_shaped hd (by omega)
  have s2 := fine_shaped (fine_list hs) hn
  have a : dIn d (.list ds) = some (.bool (ds.any fun z => PyData.eqv z d)) := by
    have : dIn d (.list ds) = if (SeqAt.shaped d && SeqAt.shaped (.list ds)) = true then some (.bool (ds.any fun z => PyData.eqv z d)) else none := by cases d <;> rfl
    rw [this, s1, s2]; rfl
  have b : dNotIn d (.list ds) = some (.bool (!ds.any fun z => PyData.eqv z d)) := by
    have : dNotIn d (.list ds) = if (SeqAt.shaped d && SeqAt.shaped (.list ds)) = true then some (.bool (!ds.any fun z => PyData.eqv z d)) else none := by cases d <;> rfl
    rw [this, s1, s2]; rfl
  exact ⟨_, a, b, any_iff bd bs⟩
theorem dIn_ints (l : List Int) (i : Int) (hi : i.natAbs < 10 ^ 12) (hl : ∀ x ∈ l, x.natAbs < 10 ^ 12) : dIn (.int i) (.list (l.map .int)) = some (.bool (decide (i ∈ l))) ∧ dNotIn (.int i) (.list (l.map .int)) = some (.bool (!decide (i ∈ l))) := by
  obtain ⟨b, h1, h2, h3⟩ := dIn_fine (n := 0) (w := 50) (d := .int i) (ds := l.map .int) (fine_int hi) (fun x hx => by obtain ⟨y, hy, rfl⟩ := List.mem_map.mp hx; exact fine_int (hl y hy)) (by decide) rfl (fun x hx => by obtain ⟨y, hy, rfl⟩ := List.mem_map.mp hx; rfl)
  have e : b = decide (i ∈ l) := by
    rw [Bool.eq_iff_iff, h3, decide_eq_true_eq, List.mem_map]
    exact ⟨fun ⟨y, hy, e⟩ => by cases e; exact hy, fun h => ⟨i, h, rfl⟩⟩
  rw [h1, h2, e]
  exact ⟨rfl, rfl⟩
theorem nodup_bound : ∀ (n : Nat) (l : List Int), l.Nodup → (∀ i ∈ l, 0 ≤ i ∧ i < n) → l.length ≤ n
  | 0, [], _, _ => Nat.le_refl _
  | 0, x :: l, _, h => by have := h x List.mem_cons_self; omega
  | n + 1, l, hd, h => by
    by_cases q : (n : Int) ∈ l
    · have h1 := nodup_bound n (l.erase (n : Int)) (hd.erase _) fun i hi => by
        have hm := (hd.mem_erase_iff).mp hi
        have := h i hm.2
        have := hm.1
        omega
      rw [List.length_erase_of_mem q] at h1
      omega
    · have := nodup_bound n l hd fun i hi => by
        have h1 := h i hi
        have : i ≠ (n : Int) := fun z => q (by rw [← z]; exact hi)
        omega
      omega
end DL
end

section
namespace DL
open PySem PySem.Spec PyProof.Rows L2 TL
/-! lists without repetition, in order of first appearance -/
section
variable {α β κ ι : Type} [DecidableEq α] [DecidableEq β] [DecidableEq κ]
def dadd (a : List α) (x : α) : List α := if x ∈ a then a else a ++ [x]
def dis (l : List α) : List α := l.foldl dadd []
theorem dis_snoc (l : List α) (x : α) : dis (l ++ [x]) = dadd (dis l) x := by unfold dis; rw [List.foldl_append]; rfl
theorem snoc_ind {P : List ι → Prop} (h0 : P []) (h1 : ∀ l x, P l → P (l ++ [x])) (l : List ι) : P l := by
  rw [← List.reverse_reverse l]
  induction l.reverse with
  | nil => exact h0
  | cons x m ih => rw [List.reverse_cons]; exact h1 _ _ ih
theorem mem_dadd {a : List α} {x y : α} : y ∈ dadd a x ↔ y ∈ a ∨ y = x := by
  unfold dadd
  split
  · rename_i h
    exact ⟨.inl, fun z => z.elim id fun e => by rw [e]; exact h⟩
  · rw [List.mem_append, List.mem_singleton]
theorem mem_dis (l : List α) (x : α) : x ∈ dis l ↔ x ∈ l := by
  induction l using snoc_ind with
  | h0 => exact Iff.rfl
  | h1 l y ih => rw [dis_snoc, mem_dadd, ih, List.mem_append, List.mem_singleton]
theorem dis_nodup (l : List α) : (dis l).Nodup := by
  induction l using snoc_ind with
  | h0 => exact List.nodup_nil
  | h1 l y ih =>
    rw [dis_snoc]
    unfold dadd
    split
    · exact ih
    · rename_i h
      rw [List.nodup_append]
      exact ⟨ih, by simp, fun a ha b hb e => h (by rw [List.mem_singleton] at hb; rw [← hb, ← e]; exact ha)⟩
theorem dis_len (l : List α) : (dis l).length ≤ l.length := by
  induction l using snoc_ind with
  | h0 => exact Nat.le_refl _
  | h1 l y ih =>
    rw [dis_snoc, List.length_append]
    unfold dadd
    split
    · exact Nat.le_trans ih (Nat.le_add_right _ _)
    · rw [List.length_append]; exact Nat.add_le_add_right ih _
theorem dis_pre (l m : List α) : dis l <+: dis (l ++ m) := by
  induction m using snoc_ind with
  | h0 => rw [List.append_nil]; exact List.prefix_rfl
  | h1 m y ih =>
    rw [← List.append_assoc, dis_snoc]
    refine ih.trans ?_
    unfold dadd
    split
    · exact List.prefix_rfl
    · exact List.prefix_append _ _
def ixO (a : List α) (x : α) : Nat := a.idxOf x
theorem idx_mem {a b : List α} {x : α} (hx : x ∈ a) : ixO (a ++ b) x = ixO a x := by unfold ixO; rw [List.idxOf_append, if_pos hx]
theorem idx_non {a b : List α} {x : α} (hx : x ∉ a) : ixO (a ++ b) x = ixO b x + a.length := by unfold ixO; rw [List.idxOf_append, if_neg hx]
theorem idx_lt {a : List α} {x : α} : ixO a x < a.length ↔ x ∈ a := List.idxOf_lt_length_iff
theorem idx_pre {a b : List α} (h : a <+: b) {x : α} (hx : x ∈ a) : ixO b x = ixO a x := by
  obtain ⟨c, rfl⟩ := h
  exact idx_mem hx
theorem idx_new {a : List α} {x : α} (hx : x ∉ a) : ixO (a ++ [x]) x = a.length := by
  rw [idx_non hx]
  unfold ixO
  simp
theorem idx_inj {a : List α} {x y : α} (hx : x ∈ a) (hy : y ∈ a) (h : ixO a x = ixO a y) : x = y := by
  have e1 := List.getElem_idxOf (List.idxOf_lt_length_iff.mpr hx)
  have e2 := List.getElem_idxOf (List.idxOf_lt_length_iff.mpr hy)
  rw [← e1, ← e2]
  unfold ixO at h
  congr 1
/-- a finer map has as many values at least; as many: it is no finer -/
theorem pigeon (g : ι → α) (h : ι → β) (l : List ι) : (∀ a ∈ l, ∀ b ∈ l, h a = h b → g a = g b) → (dis (l.map g)).length ≤ (dis (l.map h)).length ∧ ((dis (l.map h)).length ≤ (dis (l.map g)).length → ∀ a ∈ l, ∀ b ∈ l, g a = g b → h a = h b) := by
  induction l using snoc_ind with
  | h0 => exact fun _ => ⟨Nat.le_refl _, fun _ a ha => nomatch ha⟩
  | h1 l x ih =>
    intro hr
    obtain ⟨i1, i2⟩ := ih fun a ha b hb => hr a (List.mem_append_left _ ha) b (List.mem_append_left _ hb)
    have hx : x ∈ l ++ [x] := List.mem_append_right _ (List.mem_singleton_self _)
    rw [List.map_append, List.map_append]
    show (dis (l.map g ++ [g x])).length ≤ (dis (l.map h ++ [h x])).length ∧ ((dis (l.map h ++ [h x])).length ≤ (dis (l.map g ++ [g x])).length → _)
    rw [dis_snoc, dis_snoc]
    have key : (∀ a ∈ l, ∀ b ∈ l, g a = g b → h a = h b) → (∀ a ∈ l, g a = g x → h a = h x) → ∀ a ∈ l ++ [x], ∀ b ∈ l ++ [x], g a = g b → h a = h b := fun k1 k2 a ha b hb e => by
      rcases List.mem_append.mp ha with ha | ha <;> rcases List.mem_append.mp hb with hb | hb
      · exact k1 a ha b hb e
      · rw [List.mem_singleton.mp hb] at e ⊢; exact k2 a ha e
      · rw [List.mem_singleton.mp ha] at e ⊢; exact (k2 b hb e.symm).symm
      · rw [List.mem_singleton.mp ha, List.mem_singleton.mp hb]
    by_cases q : h x ∈ l.map h
    · obtain ⟨b, hb, e⟩ := List.mem_map.mp q
      have e2 := hr b (List.mem_append_left _ hb) x hx e
      have q2 : g x ∈ l.map g := by rw [← e2]; exact List.mem_map.mpr ⟨b, hb, rfl⟩
      unfold dadd
      rw [if_pos ((mem_dis _ _).mpr q), if_pos ((mem_dis _ _).mpr q2)]
      exact ⟨i1, fun z => key (i2 z) fun a ha e3 => by rw [← e]; exact i2 z a ha b hb (e3.trans e2.symm)⟩
    · unfold dadd
      rw [if_neg fun z => q ((mem_dis _ _).mp z), List.length_append, List.length_singleton]
      by_cases q2 : g x ∈ l.map g
      · rw [if_pos ((mem_dis _ _).mpr q2)]
        exact ⟨by omega, fun z => absurd z (by omega)⟩
      · rw [if_neg fun z => q2 ((mem_dis _ _).mp z), List.length_append, List.length_singleton]
        exact ⟨by omega, fun z => key (i2 (by omega)) fun a ha e3 => absurd (List.mem_map.mpr ⟨a, ha, e3⟩) q2⟩
theorem dis_idx (g : ι → α) (h : ι → β) (l : List ι) : (∀ a ∈ l, ∀ b ∈ l, (g a = g b ↔ h a = h b)) → (dis (l.map g)).length = (dis (l.map h)).length ∧ ∀ a ∈ l, ixO (dis (l.map g)) (g a) = ixO (dis (l.map h)) (h a) := by
  induction l using snoc_ind with
  | h0 => exact fun _ => ⟨rfl, fun a ha => nomatch ha⟩
  | h1 l x ih =>
    intro hr
    obtain ⟨i1, i2⟩ := ih fun a ha b hb => hr a (List.mem_append_left _ ha) b (List.mem_append_left _ hb)
    have hx : x ∈ l ++ [x] := List.mem_append_right _ (List.mem_singleton_self _)
    rw [List.map_append, List.map_append]
    show (dis (l.map g ++ [g x])).length = (dis (l.map h ++ [h x])).length ∧ ∀ a ∈ l ++ [x], ixO (dis (l.map g ++ [g x])) (g a) = ixO (dis (l.map h ++ [h x])) (h a)
    rw [dis_snoc, dis_snoc]
    by_cases q : h x ∈ l.map h
    · obtain ⟨b, hb, e⟩ := List.mem_map.mp q
      have e2 := (hr b (List.mem_append_left _ hb) x hx).mpr e
      have q2 : g x ∈ l.map g := by rw [← e2]; exact List.mem_map.mpr ⟨b, hb, rfl⟩
      unfold dadd
      rw [if_pos ((mem_dis _ _).mpr q), if_pos ((mem_dis _ _).mpr q2)]
      refine ⟨i1, fun a ha => ?_⟩
      rcases List.mem_append.mp ha with ha | ha
      · exact i2 a ha
      · rw [List.mem_singleton.mp ha, ← e2, ← e]; exact i2 b hb
    · have q2 : g x ∉ l.map g := fun z => by
        obtain ⟨b, hb, e⟩ := List.mem_map.mp z
        exact q (List.mem_map.mpr ⟨b, hb, (hr b (List.mem_append_left _ hb) x hx).mp e⟩)
      have p1 : h x ∉ dis (l.map h) := fun z => q ((mem_dis _ _).mp z)
      have p2 : g x ∉ dis (l.map g) := fun z => q2 ((mem_dis _ _).mp z)
      unfold dadd
      rw [if_neg p1, if_neg p2]
      refine ⟨by rw [List.length_append, List.length_append, i1]; rfl, fun a ha => ?_⟩
      rcases List.mem_append.mp ha with ha | ha
      · rw [idx_mem ((mem_dis _ _).mpr (List.mem_map.mpr ⟨a, ha, rfl⟩)), idx_mem ((mem_dis _ _).mpr (List.mem_map.mpr ⟨a, ha, rfl⟩))]
        exact i2 a ha
      · rw [List.mem_singleton.mp ha, idx_new p1, idx_new p2, i1]
/-! refinement of classes -/
variable {σ : Type} [DecidableEq σ]
def F2 (R : σ → σ → Prop) : List (β × σ) → List (β × σ) → Prop
  | [], [] => True
  | e :: l, e' :: l' => e.1 = e'.1 ∧ R e.2 e'.2 ∧ F2 R l l'
  | _, _ => False
theorem F2.mono {R R' : σ → σ → Prop} : ∀ {l l' : List (β × σ)}, (∀ x ∈ l, ∀ y ∈ l', R x.2 y.2 → R' x.2 y.2) → F2 R l l' → F2 R' l l'
  | [], [], _, _ => trivial
  | e :: l, e' :: l', h, ⟨a, b, c⟩ => ⟨a, h e List.mem_cons_self e' List.mem_cons_self b, F2.mono (fun x hx y hy => h x (List.mem_cons_of_mem _ hx) y (List.mem_cons_of_mem _ hy)) c⟩
  | [], _ :: _, _, h => h.elim
  | _ :: _, [], _, h => h.elim
theorem map_iff (c : σ → κ) : ∀ (l l' : List (β × σ)), (l.map fun e => (e.1, c e.2)) = (l'.map fun e => (e.1, c e.2)) ↔ F2 (fun x y => c x = c y) l l'
  | [], [] => ⟨fun _ => trivial, fun _ => rfl⟩
  | e :: l, e' :: l' => by
    rw [List.map_cons, List.map_cons, List.cons.injEq, Prod.mk.injEq, map_iff c l l', and_assoc]
    exact Iff.rfl
  | [], _ :: _ => ⟨fun h => (List.cons_ne_nil _ _ h.symm).elim, fun h => False.elim h⟩
  | _ :: _, [] => ⟨fun h => (List.cons_ne_nil _ _ h).elim, fun h => False.elim h⟩
variable (lab : σ → α) (tos : σ → List (β × σ))
def nmC (c : σ → κ) (s : σ) : α × List (β × κ) := (lab s, (tos s).map fun e => (e.1, c e.2))
def Rl : Nat → σ → σ → Prop
  | 0, _, _ => True
  | t + 1, s, s' => lab s = lab s' ∧ F2 (Rl t) (tos s) (tos s')
theorem nmC_iff (c : σ → κ) (s s' : σ) : nmC lab tos c s = nmC lab tos c s' ↔ lab s = lab s' ∧ F2 (fun x y => c x = c y) (tos s) (tos s') := by
  unfold nmC
  rw [Prod.mk.injEq, map_iff]
def Cl (S : σ → Prop) : Prop := ∀ s, S s → ∀ e ∈ tos s, S e.2
theorem nm_Rl {S : σ → Prop} (hS : Cl tos S) (c : σ → κ) (t : Nat) (h : ∀ x y, S x → S y → (c x = c y ↔ Rl lab tos t x y)) (s s' : σ) (hs : S s) (hs' : S s') : nmC lab tos c s = nmC lab tos c s' ↔ Rl lab tos (t + 1) s s' := by
  rw [nmC_iff]
  exact and_congr Iff.rfl ⟨F2.mono fun x hx y hy => (h x.2 y.2 (hS s hs x hx) (hS s' hs' y hy)).mp, F2.mono fun x hx y hy => (h x.2 y.2 (hS s hs x hx) (hS s' hs' y hy)).mpr⟩
theorem Rl_down : ∀ (t : Nat) (s s' : σ), Rl lab tos (t + 1) s s' → Rl lab tos t s s'
  | 0, _, _, _ => trivial
  | t + 1, _, _, h => ⟨h.1, F2.mono (fun x _ y _ => Rl_down t x.2 y.2) h.2⟩
theorem Rl_le {t t' : Nat} (h : t ≤ t') (s s' : σ) : Rl lab tos t' s s' → Rl lab tos t s s' := by
  obtain ⟨k, rfl⟩ := Nat.le.dest h
  clear h
  induction k with
  | zero => exact id
  | succ k ih => exact fun z => ih (Rl_down lab tos (t + k) s s' z)
def Stab (S : σ → Prop) (t : Nat) : Prop := ∀ s s', S s → S s' → Rl lab tos t s s' → Rl lab tos (t + 1) s s'
theorem Stab.next {S : σ → Prop} (hS : Cl tos S) {t : Nat} (h : Stab lab tos S t) : Stab lab tos S (t + 1) := fun s s' hs hs' r => ⟨r.1, F2.mono (fun x hx y hy => h x.2 y.2 (hS s hs x hx) (hS s' hs' y hy)) r.2⟩
theorem Stab.up {S : σ → Prop} (hS : Cl tos S) {t : Nat} (h : Stab lab tos S t) : ∀ k, Stab lab tos S (t + k)
  | 0 => h
  | k + 1 => Stab.next lab tos hS (Stab.up hS h k)
theorem Stab.eq {S : σ → Prop} (hS : Cl tos S) {t : Nat} (h : Stab lab tos S t) {t' : Nat} (ht : t ≤ t') {s s' : σ} (hs : S s) (hs' : S s') : Rl lab tos t s s' ↔ Rl lab tos t' s s' := by
  refine ⟨?_, Rl_le lab tos ht s s'⟩
  obtain ⟨k, rfl⟩ := Nat.le.dest ht
  clear ht
  induction k with
  | zero => exact id
  | succ k ih => exact fun z => Stab.up lab tos hS h k s s' hs hs' (ih z)
/-- classes by names, numbered as they appear in l -/
def clsN (l : List σ) : Nat → σ → Nat
  | 0, _ => 0
  | t + 1, s => ixO (dis (l.map (nmC lab tos (clsN l t)))) (nmC lab tos (clsN l t) s)
theorem cls_Rl {l : List σ} (hl : Cl tos (· ∈ l)) : ∀ (t : Nat) (s s' : σ), s ∈ l → s' ∈ l → (clsN lab tos l t s = clsN lab tos l t s' ↔ Rl lab tos t s s')
  | 0, _, _, _, _ => ⟨fun _ => trivial, fun _ => rfl⟩
  | t + 1, s, s', hs, hs' => by
    rw [← nm_Rl lab tos hl (clsN lab tos l t) t (fun x y hx hy => cls_Rl hl t x y hx hy) s s' hs hs']
    refine ⟨fun h => idx_inj ((mem_dis _ _).mpr (List.mem_map.mpr ⟨s, hs, rfl⟩)) ((mem_dis _ _).mpr (List.mem_map.mpr ⟨s', hs', rfl⟩)) h, fun h => ?_⟩
    show ixO (dis _) (nmC _ _ _ s) = ixO (dis _) (nmC _ _ _ s')
    rw [h]
def cntN (l : List σ) (t : Nat) : Nat := (dis (l.map (clsN lab tos l t))).length
theorem cnt_names {l : List σ} (hl : Cl tos (· ∈ l)) (t : Nat) : (dis (l.map (nmC lab tos (clsN lab tos l t)))).length = cntN lab tos l (t + 1) :=
  (dis_idx (nmC lab tos (clsN lab tos l t)) (clsN lab tos l (t + 1)) l fun a ha b hb => by
    rw [cls_Rl lab tos hl (t + 1) a b ha hb, nm_Rl lab tos hl (clsN lab tos l t) t (fun x y hx hy => cls_Rl lab tos hl t x y hx hy) a b ha hb]).1
theorem cnt_step {l : List σ} (hl : Cl tos (· ∈ l)) (t : Nat) : cntN lab tos l t ≤ cntN lab tos l (t + 1) ∧ (cntN lab tos l (t + 1) ≤ cntN lab tos l t → Stab lab tos (· ∈ l) t) := by
  obtain ⟨a, b⟩ := pigeon (clsN lab tos l t) (clsN lab tos l (t + 1)) l fun a ha b hb h => (cls_Rl lab tos hl t a b ha hb).mpr (Rl_down lab tos t a b ((cls_Rl lab tos hl (t + 1) a b ha hb).mp h))
  exact ⟨a, fun h s s' hs hs' r => (cls_Rl lab tos hl (t + 1) s s' hs hs').mp (b h s hs s' hs' ((cls_Rl lab tos hl t s s' hs hs').mpr r))⟩
theorem cnt_le (l : List σ) (t : Nat) : cntN lab tos l t ≤ l.length := by
  have := dis_len (l.map (clsN lab tos l t))
  rwa [List.length_map] at this
theorem stab_len {l : List σ} (hl : Cl tos (· ∈ l)) : Stab lab tos (· ∈ l) l.length := by
  have h : ∀ t, Stab lab tos (· ∈ l) t ∨ t ≤ cntN lab tos l t := fun t => by
    induction t with
    | zero => exact .inr (Nat.zero_le _)
    | succ t ih =>
      rcases ih with ih | ih
      · exact .inl (Stab.next lab tos hl ih)
      · obtain ⟨a, b⟩ := cnt_step lab tos hl t
        by_cases q : cntN lab tos l (t + 1) ≤ cntN lab tos l t
        · exact .inl (Stab.next lab tos hl (b q))
        · exact .inr (by omega)
  rcases h l.length with h | h
  · exact h
  · have a := cnt_le lab tos l (l.length + 1)
    exact (cnt_step lab tos hl l.length).2 (by omega)
/-- the first of each class, in order -/
theorem firsts_eq {γ : Type} (p : σ → Nat) (c : σ → κ) (G : σ → γ) (G' : κ → γ) (l : List σ) (hp : ∀ s ∈ l, p s = ixO (dis (l.map c)) (c s)) (hG : ∀ s ∈ l, G s = G' (c s)) : l.foldl (fun rows s => if p s = rows.length then rows ++ [G s] else rows) [] = (dis (l.map c)).map G' := by
  have h : ∀ pre suf : List σ, l = pre ++ suf → pre.foldl (fun rows s => if p s = rows.length then rows ++ [G s] else rows) [] = (dis (pre.map c)).map G' := fun pre => by
    induction pre using snoc_ind with
    | h0 => exact fun _ _ => rfl
    | h1 pre x ih =>
      intro suf e
      have e2 : l = pre ++ ([x] ++ suf) := by rw [e, List.append_assoc]
      have hx : x ∈ l := by rw [e2]; exact List.mem_append_right _ (List.mem_append_left _ (List.mem_singleton_self _))
      rw [List.foldl_append, ih _ e2, List.map_append]
      show (if p x = _ then _ else _) = (dis (pre.map c ++ [c x])).map G'
      rw [dis_snoc, List.length_map, hp x hx]
      have pr : dis (pre.map c ++ [c x]) <+: dis (l.map c) := by
        rw [e, List.map_append, List.map_append]
        exact dis_pre _ _
      rw [dis_snoc] at pr
      unfold dadd at pr ⊢
      by_cases q : c x ∈ dis (pre.map c)
      · rw [if_pos q] at pr ⊢
        rw [idx_pre pr q, if_neg]
        have := idx_lt.mpr q
        omega
      · rw [if_neg q] at pr ⊢
        rw [idx_pre pr (List.mem_append_right _ (List.mem_singleton_self _)), idx_new q, if_pos rfl, List.map_append, hG x hx]
        rfl
  exact h l [] (List.append_nil l).symm
end
end DL
end

section
namespace DL
open PySem PySem.Spec PyProof.Rows L2 TL
/-! keys -/
mutual
theorem keyOf_inj : ∀ (a b : D) (k : NestedKey), keyOf a = some k → keyOf b = some k → a = b
  | .none, b, k, ha, hb => by
    cases ha
    cases b <;> first | rfl | (cases hb; done) | (simp [keyOf] at hb)
  | .int i, b, k, ha, hb => by
    cases ha
    cases b <;> first | (cases hb; rfl) | (cases hb; done) | (simp [keyOf] at hb)
  | .str i, b, k, ha, hb => by
    cases ha
    cases b <;> first | (cases hb; rfl) | (cases hb; done) | (simp [keyOf] at hb)
  | .tuple ds, b, k, ha, hb => by
    have ha' : (keysOf ds).map NestedKey.tup = some k := ha
    obtain ⟨ks, e1, rfl⟩ := Option.map_eq_some_iff.mp ha'
    cases b with
    | tuple es =>
      have hb' : (keysOf es).map NestedKey.tup = some (.tup ks) := hb
      obtain ⟨ks2, e2, e3⟩ := Option.map_eq_some_iff.mp hb'
      cases e3
      rw [keysOf_inj ds es ks e1 e2]
    | none => cases hb
    | int i => cases hb
    | str i => cases hb
    | _ => cases hb
  | .bool b, _, _, ha, _ => nomatch ha
  | .list b, _, _, ha, _ => nomatch ha
  | .dict b, _, _, ha, _ => nomatch ha
theorem keysOf_inj : ∀ (a b : List D) (k : List NestedKey), keysOf a = some k → keysOf b = some k → a = b
  | [], [], _, _, _ => rfl
  | d :: ds, e :: es, k, ha, hb => by
    have ha' : ((keyOf d).bind fun k => (keysOf ds).map (k :: ·)) = some k := ha
    have hb' : ((keyOf e).bind fun k => (keysOf es).map (k :: ·)) = some k := hb
    obtain ⟨k1, a1, a2⟩ := Option.bind_eq_some_iff.mp ha'
    obtain ⟨ks1, a3, rfl⟩ := Option.map_eq_some_iff.mp a2
    obtain ⟨k2, b1, b2⟩ := Option.bind_eq_some_iff.mp hb'
    obtain ⟨ks2, b3, b4⟩ := Option.map_eq_some_iff.mp b2
    cases b4
    rw [keyOf_inj d e k1 a1 b1, keysOf_inj ds es ks1 a3 b3]
  | [], e :: es, k, ha, hb => by
    cases ha
    have hb' : ((keyOf e).bind fun k => (keysOf es).map (k :: ·)) = some [] := hb
    obtain ⟨k2, b1, b2⟩ := Option.bind_eq_some_iff.mp hb'
    obtain ⟨ks2, b3, b4⟩ := Option.map_eq_some_iff.mp b2
    cases b4
  | d :: ds, [], k, ha, hb => by
    cases hb
    have ha' : ((keyOf d).bind fun k => (keysOf ds).map (k :: ·)) = some [] := ha
    obtain ⟨k2, b1, b2⟩ := Option.bind_eq_some_iff.mp ha'
    obtain ⟨ks2, b3, b4⟩ := Option.map_eq_some_iff.mp b2
    cases b4
end
theorem keyEq_of {a b : D} {k k' : NestedKey} (ha : keyOf a = some k) (hb : keyOf b = some k') : (keyEqD a b = true) ↔ a = b := by
  have e : keyEqD a b = decide (k = k') := by unfold keyEqD; rw [ha, hb]
  rw [e, decide_eq_true_eq]
  exact ⟨fun h => keyOf_inj a b k ha (by rw [h]; exact hb), fun h => by rw [h, hb] at ha; exact (Option.some.inj ha).symm⟩
theorem keysOf_map {ι : Type} (j : ι → D) (k : ι → NestedKey) (h : ∀ x, keyOf (j x) = some (k x)) : ∀ l : List ι, keysOf (l.map j) = some (l.map k)
  | [] => rfl
  | x :: l => by
    show ((keyOf (j x)).bind fun k => (keysOf (l.map j)).map (k :: ·)) = _
    rw [h x, keysOf_map j k h l]
    rfl
theorem key_lst (l : List Nat) : keyOf (lst l) = some (.text ⟨l.toArray⟩) := rfl
theorem dep_all {n : Nat} : ∀ {l : List NestedKey}, (∀ k ∈ l, k.depth ≤ n) → NestedKey.depthAll l ≤ n
  | [], _ => Nat.zero_le _
  | k :: l, h => by
    show max k.depth (NestedKey.depthAll l) ≤ n
    exact Nat.max_le.mpr ⟨h k List.mem_cons_self, dep_all fun x hx => h x (List.mem_cons_of_mem _ hx)⟩
/-! dicts over a map -/
section
variable {α β : Type} [DecidableEq α] (j : α → D) (v : α → D)
def dMap (l : List α) : List (D × D) := l.map fun a => (j a, v a)
theorem dMap_len (l : List α) : (dMap j v l).length = l.length := List.length_map _
variable (hj : ∀ a b, keyEqD (j a) (j b) = true ↔ a = b)
include hj
theorem valD_dMap (x : α) : ∀ l : List α, valD (dMap j v l) (j x) = if x ∈ l then some (v x) else none
  | [] => by simp [dMap, valD]
  | a :: l => by
    show (if keyEqD (j a) (j x) = true then some (v a) else valD (dMap j v l) (j x)) = _
    rw [valD_dMap x l]
    by_cases q : a = x
    · rw [if_pos ((hj a x).mpr q), q, if_pos List.mem_cons_self]
    · rw [if_neg fun z => q ((hj a x).mp z)]
      by_cases m : x ∈ l
      · rw [if_pos m, if_pos (List.mem_cons_of_mem _ m)]
      · rw [if_neg m, if_neg fun z => (List.mem_cons.mp z).elim (fun e => q e.symm) m]
theorem hasD_dMap (x : α) (l : List α) : hasD (dMap j v l) (j x) = decide (x ∈ l) := by
  rw [valD_has, valD_dMap j v hj]
  by_cases m : x ∈ l
  · rw [if_pos m, decide_eq_true m]; rfl
  · rw [if_neg m, decide_eq_false m]; rfl
theorem putD_dMap (x : α) (l : List α) (h : x ∉ l) : putD (dMap j v l) (j x) (v x) = dMap j v (l ++ [x]) := by
  unfold putD
  rw [hasD_dMap j v hj, decide_eq_false h, if_neg (by decide)]
  unfold dMap
  rw [List.map_append]
  rfl
/-- any value for a new key -/
theorem putD_new2 (x : α) (l : List α) (w : D) (h : x ∉ l) : putD (dMap j v l) (j x) w = dMap j v l ++ [(j x, w)] := by
  unfold putD
  rw [hasD_dMap j v hj, decide_eq_false h, if_neg (by decide)]
end
theorem int_key (a b : Int) : keyEqD (.int a) (.int b) = true ↔ a = b := by rw [keyEq_int, decide_eq_true_eq]
theorem ixO_get {α : Type} [DecidableEq α] {a : List α} {x : α} (h : x ∈ a) : a[ixO a x]'(idx_lt.mpr h) = x := List.getElem_idxOf (List.idxOf_lt_length_iff.mpr h)
/-! the first place of an equal one -/
theorem findIdx_map {α : Type} [DecidableEq α] (j : α → D) (hj : ∀ a b, j a = j b → a = b) (hb : ∀ a, nobool (j a) = true) (x : α) : ∀ l : List α, x ∈ l → (l.map j).findIdx? (fun z => PyData.eqv z (j x)) = some (ixO l x)
  | [], h => nomatch h
  | a :: l, h => by
    rw [List.map_cons, List.findIdx?_cons]
    have e : PyData.eqv (j a) (j x) = decide (a = x) := by
      rw [Bool.eq_iff_iff, eqv_iff (hb a) (hb x), decide_eq_true_eq]
      exact ⟨hj a x, fun z => by rw [z]⟩
    rw [e]
    unfold ixO
    by_cases q : a = x
    · rw [decide_eq_true q, if_pos rfl, q, List.idxOf_cons_self]
    · have hm : x ∈ l := (List.mem_cons.mp h).elim (fun z => absurd z.symm q) id
      rw [decide_eq_false q, if_neg (by decide), findIdx_map j hj hb x l hm, List.idxOf_cons]
      have : (a == x) = false := by simpa using q
      rw [this]
      rfl
theorem mIndexD_map {α : Type} [DecidableEq α] (j : α → D) (hj : ∀ a b, j a = j b → a = b) (hb : ∀ a, nobool (j a) = true) {n w : Nat} (hn : n + 1 ≤ 60) (l : List α) (hf : ∀ a ∈ l, Fine n w (j a)) (x : α) (hx : x ∈ l) : mIndexD (.list (l.map j)) [j x] = some (.int ((ixO l x : Nat) : Int)) := by
  have s1 := fine_shaped (fine_list (n := n) (w := w) (ds := l.map j) fun d hd => by obtain ⟨a, ha, rfl⟩ := List.mem_map.mp hd; exact hf a ha) hn
  have s2 := fine_shaped (hf x hx) (by omega)
  show (if _ then _ else _) = _
  rw [s1, s2, if_pos (show (true && true) = true from rfl), findIdx_map j hj hb x l hx]
  rfl
theorem mIndexI_map (l : List Int) (x : Int) (hx : x ∈ l) : mIndexI (.list (l.map PyData.int)) [.int x] = some (.int ((ixO l x : Nat) : Int)) := by
  have e2 := intsOf_map l
  unfold mIndexI
  simp only [e2]
  have h1 : l.idxOf x < l.length := List.idxOf_lt_length_iff.mpr hx
  exact if_pos h1
theorem countP_map {α : Type} [DecidableEq α] (j : α → D) (hj : ∀ a b, j a = j b → a = b) (hb : ∀ a, nobool (j a) = true) (x : α) (l : List α) : (l.map j).countP (fun z => PyData.eqv z (j x)) = l.count x := by
  rw [List.countP_map]
  unfold List.count
  congr 1
  funext a
  show PyData.eqv (j a) (j x) = (a == x)
  rw [Bool.eq_iff_iff, eqv_iff (hb a) (hb x), beq_iff_eq]
  exact ⟨hj a x, fun z => by rw [z]⟩
theorem mCountD_map {α : Type} [DecidableEq α] (j : α → D) (hj : ∀ a b, j a = j b → a = b) (hb : ∀ a, nobool (j a) = true) {n w : Nat} (hn : n + 1 ≤ 60) (l : List α) (hf : ∀ a ∈ l, Fine n w (j a)) (x : α) (hx : Fine n w (j x)) : mCountD (.list (l.map j)) [j x] = some (.int ((l.count x : Nat) : Int)) := by
  have s1 := fine_shaped (fine_list (n := n) (w := w) (ds := l.map j) fun d hd => by obtain ⟨a, ha, rfl⟩ := List.mem_map.mp hd; exact hf a ha) hn
  have s2 := fine_shaped hx (by omega)
  show (if _ then _ else _) = _
  rw [s1, s2, if_pos (show (true && true) = true from rfl), countP_map j hj hb x l]
end DL
end

section
namespace DL
open PySem PySem.Spec PyProof.Rows L2 TL
/-! what is reached, breadth first -/
section
variable {σ τ : Type} [DecidableEq σ] [DecidableEq τ]
def adds (a l : List σ) : List σ := l.foldl dadd a
def bfs (sc : σ → List σ) (d : σ) : Nat → Nat → List σ → List σ
  | 0, _, a => a
  | t + 1, j, a => bfs sc d t (j + 1) (if j < a.length then adds a (sc (a.getD j d)) else a)
theorem bfs_done (sc : σ → List σ) (d : σ) : ∀ (t j : Nat) (a : List σ), a.length ≤ j → bfs sc d t j a = a
  | 0, _, _, _ => rfl
  | t + 1, j, a, h => by
    unfold bfs
    rw [if_neg (by omega)]
    exact bfs_done sc d t (j + 1) a (by omega)
theorem adds_pre : ∀ (l a : List σ), a <+: adds a l
  | [], _ => List.prefix_rfl
  | x :: l, a => by
    refine List.IsPrefix.trans ?_ (adds_pre l (dadd a x))
    unfold dadd
    split
    · exact List.prefix_rfl
    · exact List.prefix_append _ _
theorem mem_adds {y : σ} : ∀ {l a : List σ}, y ∈ adds a l ↔ y ∈ a ∨ y ∈ l
  | [], a => ⟨.inl, fun h => h.elim id fun z => nomatch z⟩
  | x :: l, a => by
    show y ∈ adds (dadd a x) l ↔ _
    rw [mem_adds, mem_dadd, List.mem_cons, or_assoc]
theorem bfs_pre (sc : σ → List σ) (d : σ) : ∀ (t j : Nat) (a : List σ), a <+: bfs sc d t j a
  | 0, _, _ => List.prefix_rfl
  | t + 1, j, a => by
    unfold bfs
    refine List.IsPrefix.trans ?_ (bfs_pre sc d t (j + 1) _)
    split
    · exact adds_pre _ _
    · exact List.prefix_rfl
theorem pre_getD {a b : List σ} (h : a <+: b) {i : Nat} (hi : i < a.length) (d : σ) : b.getD i d = a.getD i d := by
  obtain ⟨c, rfl⟩ := h
  rw [List.getD_eq_getElem?_getD, List.getD_eq_getElem?_getD, List.getElem?_append_left hi]
/-- what follows what is reached is reached -/
theorem bfs_closed (sc : σ → List σ) (d : σ) : ∀ (t j : Nat) (a : List σ), (∀ i, i < j → i < a.length → ∀ x ∈ sc (a.getD i d), x ∈ a) → ∀ i, i < j + t → i < (bfs sc d t j a).length → ∀ x ∈ sc ((bfs sc d t j a).getD i d), x ∈ bfs sc d t j a
  | 0, j, a, h => fun i hi => h i (by omega)
  | t + 1, j, a, h => by
    unfold bfs
    intro i hi
    refine bfs_closed sc d t (j + 1) _ (fun i hi hl => ?_) i (by omega)
    by_cases q : j < a.length
    · rw [if_pos q] at hl ⊢
      have p := adds_pre (sc (a.getD j d)) a
      by_cases e : i = j
      · subst e
        rw [pre_getD p q]
        exact fun x hx => mem_adds.mpr (.inr hx)
      · rw [pre_getD p (by omega)]
        exact fun x hx => mem_adds.mpr (.inl (h i (by omega) (by omega) x hx))
    · rw [if_neg q] at hl ⊢
      exact h i (by omega) hl
theorem bfs_cl (sc : σ → List σ) (d : σ) (t : Nat) (a : List σ) (h : (bfs sc d t 0 a).length ≤ t) : ∀ s ∈ bfs sc d t 0 a, ∀ x ∈ sc s, x ∈ bfs sc d t 0 a := fun s hs x hx => by
  obtain ⟨i, hi, rfl⟩ := List.mem_iff_getElem.mp hs
  refine bfs_closed sc d t 0 a (fun i hi => by omega) i (by omega) hi x ?_
  rw [List.getD_eq_getElem?_getD, List.getElem?_eq_getElem hi]
  exact hx
theorem dis_dadd (q : σ → τ) (a : List σ) (x : σ) : dis ((dadd a x).map q) = dadd (dis (a.map q)) (q x) := by
  unfold dadd
  by_cases h : x ∈ a
  · rw [if_pos h, if_pos ((mem_dis _ _).mpr (List.mem_map.mpr ⟨x, h, rfl⟩))]
  · rw [if_neg h, List.map_append]
    exact dis_snoc _ _
theorem dis_adds (q : σ → τ) : ∀ (l a : List σ), dis ((adds a l).map q) = adds (dis (a.map q)) (l.map q)
  | [], _ => rfl
  | x :: l, a => by
    show dis ((adds (dadd a x) l).map q) = adds (dadd (dis (a.map q)) (q x)) (l.map q)
    rw [dis_adds q l, dis_dadd]
theorem adds_in : ∀ {l a : List σ}, (∀ x ∈ l, x ∈ a) → adds a l = a
  | [], _, _ => rfl
  | x :: l, a, h => by
    show adds (dadd a x) l = a
    have : dadd a x = a := if_pos (h x List.mem_cons_self)
    rw [this]
    exact adds_in fun y hy => h y (List.mem_cons_of_mem _ hy)
/-- a walk breadth first, seen through a map that keeps what follows -/
theorem bfs_hom (sa : σ → List σ) (sb : τ → List τ) (d : σ) (d' : τ) (q : σ → τ) (S : σ → Prop) (h : ∀ s, S s → sb (q s) = (sa s).map q ∧ ∀ x ∈ sa s, S x) : ∀ (t j : Nat) (a : List σ) (m : Nat), (∀ x ∈ a, S x) →
    (∀ i, i < j → i < a.length → ∀ x ∈ sa (a.getD i d), x ∈ a) → (bfs sa d t j a).length ≤ j + t → (dis ((bfs sa d t j a).map q)).length ≤ (dis ((a.take j).map q)).length + m → bfs sb d' m (dis ((a.take j).map q)).length (dis (a.map q)) = dis ((bfs sa d t j a).map q)
  | 0, j, a, m, _, _, hl, _ => by
    have hl : a.length ≤ j := hl
    rw [List.take_of_length_le hl]
    exact bfs_done sb d' m _ _ (Nat.le_refl _)
  | t + 1, j, a, m, hS, hc, hl, hm => by
    by_cases p' : a.length ≤ j
    · have e := bfs_done sa d (t + 1) j a (by omega)
      rw [e, List.take_of_length_le (by omega)]
      exact bfs_done sb d' m _ _ (Nat.le_refl _)
    have p : j < a.length := by omega
    have e : bfs sa d (t + 1) j a = bfs sa d t (j + 1) (adds a (sa (a.getD j d))) := by
      show bfs sa d t (j + 1) (if _ then _ else _) = _
      rw [if_pos p]
    have hs : a.getD j d ∈ a := by rw [List.getD_eq_getElem?_getD, List.getElem?_eq_getElem p]; exact List.getElem_mem p
    obtain ⟨h1, h2⟩ := h _ (hS _ hs)
    rw [e] at hl hm ⊢
    have pr := adds_pre (sa (a.getD j d)) a
    have tk : (adds a (sa (a.getD j d))).take (j + 1) = a.take j ++ [a.getD j d] := by
      obtain ⟨c, ec⟩ := pr
      rw [← ec, List.take_append_of_le_length (by omega), List.take_succ, List.getElem?_eq_getElem p, List.getD_eq_getElem?_getD, List.getElem?_eq_getElem p]
      rfl
    have ih := bfs_hom sa sb d d' q S h t (j + 1) (adds a (sa (a.getD j d)))
    have hS' : ∀ x ∈ adds a (sa (a.getD j d)), S x := fun x hx => (mem_adds.mp hx).elim (hS x) (h2 x)
    have hc' : ∀ i, i < j + 1 → i < (adds a (sa (a.getD j d))).length → ∀ x ∈ sa ((adds a (sa (a.getD j d))).getD i d), x ∈ adds a (sa (a.getD j d)) := fun i hi hl2 => by
      by_cases e2 : i = j
      · subst e2
        rw [pre_getD pr p]
        exact fun x hx => mem_adds.mpr (.inr hx)
      · rw [pre_getD pr (by omega)]
        exact fun x hx => mem_adds.mpr (.inl (hc i (by omega) (by omega) x hx))
    rw [tk, List.map_append] at ih
    have ds : dis ((a.take j).map q ++ [q (a.getD j d)]) = dadd (dis ((a.take j).map q)) (q (a.getD j d)) := dis_snoc _ _
    change ∀ m, _ → _ → _ → _ ≤ (dis ((a.take j).map q ++ [q (a.getD j d)])).length + m → bfs sb d' m (dis ((a.take j).map q ++ [q (a.getD j d)])).length _ = _ at ih
    rw [ds, dis_adds, ← h1] at ih
    by_cases r : q (a.getD j d) ∈ dis ((a.take j).map q)
    · obtain ⟨s, hs2, e2⟩ := List.mem_map.mp ((mem_dis _ _).mp r)
      obtain ⟨i, hi, rfl⟩ := List.mem_iff_getElem.mp hs2
      have hij : i < j := by rw [List.length_take] at hi; omega
      rw [List.getElem_take] at e2
      have hin : ∀ y ∈ sb (q (a.getD j d)), y ∈ dis (a.map q) := fun y hy => by
        rw [← e2, (h _ (hS _ (List.getElem_mem _))).1] at hy
        obtain ⟨x, hx, rfl⟩ := List.mem_map.mp hy
        refine (mem_dis _ _).mpr (List.mem_map.mpr ⟨x, hc i hij (by omega) x ?_, rfl⟩)
        rw [List.getD_eq_getElem?_getD, List.getElem?_eq_getElem (by omega)]
        exact hx
      have dd : dadd (dis ((a.take j).map q)) (q (a.getD j d)) = dis ((a.take j).map q) := if_pos r
      rw [dd, adds_in hin] at ih
      exact ih m hS' hc' (by omega) hm
    · have dd : dadd (dis ((a.take j).map q)) (q (a.getD j d)) = dis ((a.take j).map q) ++ [q (a.getD j d)] := if_neg r
      rw [dd, List.length_append, List.length_singleton] at ih
      have bp : dis ((a.take j).map q) ++ [q (a.getD j d)] <+: dis (a.map q) := by
        have h3 := dis_pre ((a.take j).map q ++ [q (a.getD j d)]) ((a.drop (j + 1)).map q)
        rw [ds, dd] at h3
        have e4 : (a.take j).map q ++ [q (a.getD j d)] ++ (a.drop (j + 1)).map q = a.map q := by
          have e5 : a = a.take j ++ a.getD j d :: a.drop (j + 1) := by
            conv => lhs; rw [← List.take_append_drop j a]
            rw [List.drop_eq_getElem_cons p, List.getD_eq_getElem?_getD, List.getElem?_eq_getElem p]
            rfl
          conv => rhs; rw [e5]
          simp
        rwa [e4] at h3
      have lt : (dis ((a.take j).map q)).length < (dis (a.map q)).length := by
        have := bp.length_le
        rw [List.length_append, List.length_singleton] at this
        omega
      have fin : (dis (a.map q)).length ≤ (dis ((bfs sa d t (j + 1) (adds a (sa (a.getD j d)))).map q)).length := by
        obtain ⟨c, ec⟩ := pr.trans (bfs_pre sa d t (j + 1) _)
        rw [← ec, List.map_append]
        exact (dis_pre _ _).length_le
      cases m with
      | zero => omega
      | succ m =>
        have e6 : (dis (a.map q)).getD (dis ((a.take j).map q)).length d' = q (a.getD j d) := by
          rw [pre_getD bp (by rw [List.length_append, List.length_singleton]; omega), List.getD_eq_getElem?_getD, List.getElem?_append_right (Nat.le_refl _), Nat.sub_self]
          rfl
        show bfs sb d' m ((dis ((a.take j).map q)).length + 1) (if _ then _ else _) = _
        rw [if_pos lt, e6]
        exact ih m hS' hc' (by omega) (by omega)
/-- numbers by first appearance appear in order -/
theorem dis_range (c : σ → τ) (l : List σ) : dis (l.map fun s => ixO (dis (l.map c)) (c s)) = List.range (dis (l.map c)).length := by
  have h : ∀ pre suf : List σ, l = pre ++ suf → dis (pre.map fun s => ixO (dis (l.map c)) (c s)) = List.range (dis (pre.map c)).length := fun pre => by
    induction pre using snoc_ind with
    | h0 => exact fun _ _ => rfl
    | h1 pre x ih =>
      intro suf e
      have e2 : l = pre ++ ([x] ++ suf) := by rw [e, List.append_assoc]
      have i1 := ih _ e2
      rw [List.map_append, List.map_append]
      show dis (_ ++ [ixO (dis (l.map c)) (c x)]) = List.range (dis (pre.map c ++ [c x])).length
      rw [dis_snoc, i1, dis_snoc]
      have pr : dis (pre.map c ++ [c x]) <+: dis (l.map c) := by
        rw [e, List.map_append, List.map_append]
        exact dis_pre _ _
      rw [dis_snoc] at pr
      unfold dadd at pr ⊢
      by_cases q : c x ∈ dis (pre.map c)
      · rw [if_pos q] at pr ⊢
        rw [idx_pre pr q, if_pos (List.mem_range.mpr (idx_lt.mpr q))]
      · rw [if_neg q] at pr ⊢
        rw [idx_pre pr (List.mem_append_right _ (List.mem_singleton_self _)), idx_new q, if_neg (fun z => by have := List.mem_range.mp z; omega), List.length_append, List.length_singleton, List.range_succ]
  exact h l [] (List.append_nil l).symm
end
end DL
end

section
namespace DL
open PySem PySem.Spec PyProof.Rows L2 TL
section
variable {α : Type} [DecidableEq α]
theorem putD_old (j : α → D) (v : D) (hj : ∀ a b, keyEqD (j a) (j b) = true ↔ a = b) (x : α) (l : List α) (h : x ∈ l) : putD (dMap j (fun _ => v) l) (j x) v = dMap j (fun _ => v) l := by
  unfold putD
  rw [hasD_dMap j (fun _ => v) hj, decide_eq_true h, if_pos rfl]
  unfold dMap
  rw [List.map_map]
  refine List.map_congr_left fun a _ => ?_
  show (if keyEqD (j a) (j x) = true then (j a, v) else (j a, v)) = (j a, v)
  split <;> rfl
theorem hasD_iff (j v : α → D) (hj : ∀ a b, keyEqD (j a) (j b) = true ↔ a = b) (x : α) (l : List α) : hasD (dMap j v l) (j x) = true ↔ x ∈ l := by
  rw [hasD_dMap j v hj, decide_eq_true_eq]
theorem putD_const (j : α → D) (v : D) (hj : ∀ a b, keyEqD (j a) (j b) = true ↔ a = b) (x : α) (l : List α) : putD (dMap j (fun _ => v) l) (j x) v = dMap j (fun _ => v) (dadd l x) := by
  unfold dadd
  by_cases q : x ∈ l
  · rw [if_pos q]; exact putD_old j v hj x l q
  · rw [if_neg q]; exact putD_dMap j (fun _ => v) hj x l q
/-- {x: v for x in l} -/
theorem dcomp_dis {n : Bool} {vs : List Nat} {k : D → Rho → Option Rho} {t : Rho → R Bool} {fk fv : Rho → R D} (j : α → D) (v : D) (hj : ∀ a b, keyEqD (j a) (j b) = true ↔ a = b) (hf : ∀ a, keyFit n (j a) = true) (r : Rho) : ∀ (l acc : List α), (∀ a ∈ l, ∃ r1, k (j a) r = some r1 ∧ t r1 = .ok true r1 ∧ fk r1 = .ok (j a) r1 ∧ fv r1 = .ok v r1 ∧ wipeR r1 vs = r) → acc.length + l.length ≤ 100000 →
    dcompL n vs k t fk fv (l.map j) r (dMap j (fun _ => v) acc) = .ok (dMap j (fun _ => v) (l.foldl dadd acc)) r
  | [], _, _, _ => rfl
  | a :: l, acc, h, hl => by
    rw [List.length_cons] at hl
    obtain ⟨r1, e1, e2, e3, e4, e5⟩ := h a List.mem_cons_self
    have ih := dcomp_dis j v hj hf r l (dadd acc a) (fun x hx => h x (List.mem_cons_of_mem _ hx)) (by unfold dadd; split <;> (try rw [List.length_append, List.length_singleton]) <;> omega)
    have hp : putD (dMap j (fun _ => v) acc) (j a) v = dMap j (fun _ => v) (dadd acc a) := by
      unfold dadd
      by_cases q : a ∈ acc
      · rw [if_pos q]; exact putD_old j v hj a acc q
      · rw [if_neg q]; exact putD_dMap j (fun _ => v) hj a acc q
    have hc : (keyFit n (j a) && decide ((dMap j (fun _ => v) acc).length < sizeLine)) = true := by
      rw [hf, dMap_len, size_eq, decide_eq_true (by omega)]; rfl
    show dcompL n vs k t fk fv (j a :: l.map j) r _ = _
    unfold dcompL
    simp only [e1, e2, noX_ok, bind_ok, e3, e4, if_true, e5]
    rw [if_pos hc, hp]
    exact ih
theorem dis_same' (l : List α) (h : l.Nodup) : dis l = l := by
  induction l using snoc_ind with
  | h0 => rfl
  | h1 l x ih =>
    rw [List.nodup_append] at h
    rw [dis_snoc, ih h.1]
    exact if_neg fun z => h.2.2 x z x (List.mem_singleton_self _) rfl
theorem dis_len_iff (l : List α) : (dis l).length = l.length ↔ l.Nodup := by
  refine ⟨?_, fun h => by rw [dis_same' l h]⟩
  induction l using snoc_ind with
  | h0 => exact fun _ => List.nodup_nil
  | h1 l x ih =>
    rw [dis_snoc, List.length_append, List.length_singleton]
    unfold dadd
    have hle := dis_len l
    by_cases q : x ∈ dis l
    · rw [if_pos q]; intro h; omega
    · rw [if_neg q, List.length_append, List.length_singleton]
      intro h
      rw [List.nodup_append]
      exact ⟨ih (by omega), by simp, fun a ha b hb e => q ((mem_dis _ _).mpr (by rw [List.mem_singleton.mp hb] at e; rw [← e]; exact ha))⟩
theorem any_count (l : List α) : (l.any fun x => decide (1 < l.count x)) = !decide l.Nodup := by
  by_cases h : l.Nodup
  · rw [decide_eq_true h, Bool.not_true, List.any_eq_false]
    intro x hx
    have := List.nodup_iff_count.mp h x
    simp only [decide_eq_true_eq]
    omega
  · rw [decide_eq_false h, Bool.not_false, List.any_eq_true]
    have h2 : ¬ ∀ a, l.count a ≤ 1 := fun z => h (List.nodup_iff_count.mpr z)
    obtain ⟨a, ha⟩ := Classical.not_forall.mp h2
    exact ⟨a, List.count_pos_iff.mp (by omega), decide_eq_true (by omega)⟩
def cntO (l : List α) (x : α) : Nat := l.count x
theorem any_cnt (l : List α) : (l.any fun x => decide (1 < cntO l x)) = !decide l.Nodup := any_count l
theorem mCountD_cnt (j : α → D) (hj : ∀ a b, j a = j b → a = b) (hb : ∀ a, nobool (j a) = true) {n w : Nat} (hn : n + 1 ≤ 60) (l : List α) (hf : ∀ a ∈ l, Fine n w (j a)) (x : α) (hx : Fine n w (j x)) : mCountD (.list (l.map j)) [j x] = some (.int ((cntO l x : Nat) : Int)) := mCountD_map j hj hb hn l hf x hx
end
/-- a loop that stops at the first bad one -/
theorem forE_chk {ι : Type} {k : D → Rho → Option Rho} {s : Rho → SR} (j : ι → D) (p : ι → Bool) (v : D) (J : Rho → Prop) : ∀ (ds : List ι) (r : Rho), (∀ d ∈ ds, ∀ r, J r → ∃ r1, k (j d) r = some r1 ∧ ∃ r2, s r1 = (if p d = true then .nx r2 else .rt v r2) ∧ J r2) → J r → ∃ r', forE k s (ds.map j) r = (if ds.all p = true then .nx r' else .rt v r') ∧ J r'
  | [], r, _, h => ⟨r, rfl, h⟩
  | d :: ds, r, hp, h => by
    obtain ⟨r1, e1, r2, e2, h2⟩ := hp d List.mem_cons_self r h
    rw [List.map_cons]
    by_cases q : p d = true
    · rw [if_pos q] at e2
      obtain ⟨r', e3, h3⟩ := forE_chk j p v J ds r2 (fun x hx => hp x (List.mem_cons_of_mem _ hx)) h2
      refine ⟨r', ?_, h3⟩
      rw [List.all_cons, q, Bool.true_and]
      exact (forE_nx e1 e2).trans e3
    · rw [if_neg q] at e2
      refine ⟨r2, ?_, h2⟩
      have : p d = false := by simpa using q
      rw [List.all_cons, this, Bool.false_and, if_neg (by decide)]
      exact forE_rt e1 e2
theorem dEq_lst (a b : List Nat) : dEq (lst a) (lst b) = some (.bool (decide (a = b))) := by
  show some (PyData.bool (decide ((⟨a.toArray⟩ : Str) = ⟨b.toArray⟩))) = _
  congr 2
  by_cases h : a = b
  · rw [h, decide_eq_true rfl, decide_eq_true rfl]
  · rw [decide_eq_false h, decide_eq_false fun z => h (by have := congrArg (fun s : Str => s.cps.toList) z; simpa using this)]
end DL
end

section
set_option maxHeartbeats 1000000
namespace DL
open PySem PySem.Spec PyProof.Rows L2
/-! ## methods: what stands in a slot is handed on by reference, instances too -/
def Opd.getX (r : Rho) : Opd → Option D
  | .val d => some d
  | .slot i => (r[i]?).join
def getsX (r : Rho) : List Opd → Option (List D)
  | [] => some []
  | o :: os => (o.getX r).bind fun d => (getsX r os).bind fun ds => some (d :: ds)
def eFnX (F : FS) (as : List Arg) : Rho → R D := fun r => (argsR as r).bind fun os r1 => match getsX r1 os with
  | some ds => match F ds with
    | .ok d ro => .ok d (putA as ro r1)
    | .exc c x ro => .exc c x (putA as ro r1)
    | .bad => .bad
  | none => .bad
/-- o.m(..), o an instance of one's own in slot i -/
def eMe (F : FS) (i : Nat) (as : List Arg) : Rho → R D := fun r => match (r[i]?).join with
  | some (.dict _) => eFnX F (.s i :: as) r
  | _ => .bad
theorem getsX_at {r : Rho} : ∀ {os : List Opd} {ds : List D} {j : Nat} {d : D}, getsX r os = some ds → ds[j]? = some d → ∃ o, os[j]? = some o ∧ o.getX r = some d
  | [], _, _, _, h, e => by cases h; simp at e
  | o :: os, ds, j, d, h, e => by
    obtain ⟨d0, h1, h⟩ := bind_some h
    obtain ⟨ds0, h2, h⟩ := bind_some h
    cases h
    cases j with
    | zero => cases e; exact ⟨o, rfl, h1⟩
    | succ j =>
      obtain ⟨o', e1, e2⟩ := getsX_at (j := j) h2 (by simpa using e)
      exact ⟨o', by simpa using e1, e2⟩
theorem getsX_len {r : Rho} : ∀ {os : List Opd} {ds : List D}, getsX r os = some ds → ds.length = os.length
  | [], _, h => by cases h; rfl
  | o :: os, ds, h => by
    obtain ⟨d0, h1, h⟩ := bind_some h
    obtain ⟨ds0, h2, h⟩ := bind_some h
    cases h
    exact congrArg Nat.succ (getsX_len h2)
section
variable {X : Cx} {W : WX} {ms pm : Ms} {rs : Shp} {σ : L2.St} {H : Hp} {r : Rho} {O : Own} {G : Gh}
theorem Rel.enterX {as : List Arg} {os : List Opd} {vs : List V} {ds : List D} (R : Rel X.w X.K ms σ H r O G) (ok : okArgs ms pm as = true) (ao : AOk as os) (ro : RepOs X.K (msk H (Ow O G)) σ vs os) (hg : getsX r os = some ds) :
    vs.length = as.length ∧ ds.length = as.length ∧ Rel X.w X.K pm (vs.map some) H (ds.map some) (ownC as O) (gC as O G) := by
  have l1 : vs.length = as.length := ro.len.trans ao.len.symm
  have l2 : ds.length = as.length := (getsX_len hg).trans ao.len.symm
  have me : msk H (Ow (ownC as O) (gC as O G)) = msk H (Ow O G) := by rw [show Ow (ownC as O) (gC as O G) = Ow O G from funext fun a => propext ow_c]
  refine ⟨l1, l2, ⟨by rw [List.length_map, List.length_map, l1, l2], fun j d e => ?_, fun j hj => ?_, ?_, fun j j' a hj hj' => ?_, fun j a hj => ?_⟩⟩
  · rw [me]
    have e' : ds[j]? = some d := by
      rw [List.getElem?_map] at e
      cases q : ds[j]? with
      | none => rw [q] at e; cases e
      | some y => rw [q] at e; exact Option.some.inj e
    obtain ⟨o, eo, og⟩ := getsX_at hg e'
    obtain ⟨v, ev, rv⟩ := ro.at_ eo
    refine ⟨v, by rw [List.getElem?_map, ev]; rfl, ?_⟩
    rcases ao.at_ eo with ⟨f, d2, e1, rfl⟩ | ⟨i, e1, rfl⟩
    · cases og
      have hs := okArgs_e ok e1
      have hc : ownC as O j = [] := by unfold ownC slotAt; rw [e1]
      rw [hs, hc]
      exact .pur rv
    · obtain ⟨v2, ev2, rs⟩ := R.slot i d (join_some og)
      have rv' : σ[i]? = some (some v) := rv
      rw [rv'] at ev2
      cases ev2
      have hc : ownC as O j = O i := by unfold ownC; rw [e1]
      rw [(okArgs_s ok e1).1, hc]
      exact rs
  · unfold ownC
    cases q : slotAt as j with
    | none => rfl
    | some i =>
      exfalso
      have hlt : j < as.length := by
        unfold slotAt at q
        cases z : as[j]? with
        | none => rw [z] at q; cases q
        | some _ => exact (List.getElem?_eq_some_iff.mp z).1
      exact hj (ds[j]'(by omega)) (by rw [List.getElem?_map, List.getElem?_eq_getElem (by omega)]; rfl)
  · rintro a (g | ⟨i, _, hi⟩)
    · exact R.tr a g
    · exact R.trO a (.inr ⟨i, hi⟩)
  · unfold ownC at hj hj'
    split at hj
    · rename_i i e
      split at hj'
      · rename_i i' e'
        have := R.dj i i' a hj hj'
        subst this
        exact (okArgs_s ok e).2.2 j' e'
      · cases hj'
    · cases hj
  · unfold ownC at hj
    split at hj
    · rename_i i e
      rintro (g | ⟨i', h1, h2⟩)
      · exact R.dG i a hj g
      · have := R.dj i i' a hj h2
        subst this
        exact h1 j e
    · cases hj
variable {k j n : Nat} {F : FS} {x m C : Str} {T : List (Str × Fk)} {p pos ppos apos : Pos} {e : Expr} {es : List Expr} {as : List Arg} {ps : List Str}
/-- behind the arguments -/
theorem fn_tail (ok : okArgs ms pm as = true) (hn : as.length = n) {Q : VK} {os : List Opd} {vs : List V} {ds : List D} {H1 : Hp} {r1 : Rho} {O1 : Own} (ao : AOk as os) (R1 : Rel X.w X.K ms σ H1 r1 O1 G) (E1 : Ext H O G H1 O1 G) (p1 : RepOs X.K (msk H1 (Ow O1 G)) σ vs os) (hg : getsX r1 os = some ds)
    (h1 : (match F ds with | .ok d ro => (DL.R.ok d (putA as ro r1) : DL.R D) | .exc c x ro => DL.R.exc c x (putA as ro r1) | .bad => DL.R.bad).on (fun d r' => ∀ v H' O' A, Rel X.w X.K ms σ H' r' O' (GA A G) → Ext H O G H' O' (GA A G) → (∀ a ∈ A, ¬ G a) → RepS X.w X.K (msk H' (Ow O' (GA A G))) H' rs v d A → Q v H') (Bx X W ms σ H O G)) :
    spF X.w X.K X.mg pm rs n F vs H1 Q (WE W σ) := by
  obtain ⟨l1, l2, Rc⟩ := R1.enterX (pm := pm) ok ao p1 hg
  have hv : ∀ j i, slotAt as j = some i → ∃ v, vs[j]? = some v ∧ σ[i]? = some (some v) := fun j i ej => by
    have hlt : j < os.length := by
      rw [← ao.len]
      unfold slotAt at ej
      cases z : as[j]? with
      | none => rw [z] at ej; cases ej
      | some _ => exact (List.getElem?_eq_some_iff.mp z).1
    have eo := List.getElem?_eq_getElem hlt
    obtain ⟨v, ev, rv⟩ := p1.at_ eo
    refine ⟨v, ev, ?_⟩
    rcases ao.at_ eo with ⟨f, d, e1, e2⟩ | ⟨i', e1, e2⟩
    · unfold slotAt at ej; rw [e1] at ej; cases ej
    · rw [ej] at e1
      cases e1
      rw [e2] at rv
      exact rv
  refine ⟨ds, ownC as O1, gC as O1 G, l1.trans hn, l2.trans hn, Rc, ?_⟩
  cases hF : F ds with
  | bad => rw [hF] at h1; exact False.elim h1
  | ok d ro =>
    rw [hF] at h1
    intro v H' O' A R' E' nA rp
    obtain ⟨ow, R2, E2, n2⟩ := R1.back ok hv R' E' nA l1
    refine h1 v H' _ A R2 (E1.trans E2) n2 ?_
    rw [show Ow (ownB as O1 O') (GA A G) = Ow O' (GA A (gC as O1 G)) from funext fun a => propext (ow a)]
    exact rp
  | exc c y ro =>
    rw [hF] at h1
    intro cv dx H' O' R' E' ex
    obtain ⟨ow, R2, E2, n2⟩ := Rel.back (A := []) (ro := ro) (Oc := O') (vs := vs) (H' := H') R1 ok hv (by rw [ga_nil]; exact R') (by rw [ga_nil]; exact E') (fun _ z => nomatch z) l1
    rw [ga_nil] at R2 E2
    exact h1 cv dx H' _ R2 (E1.trans E2) ex
theorem fn_readX (ok : okArgs ms pm as = true) (hn : as.length = n) {Q : VK} (h : tEo X W ms rs (eFnX F as) σ H Q) : tA X W ms (argsR as) σ H fun vs H1 => spF X.w X.K X.mg pm rs n F vs H1 Q (WE W σ) := by
  obtain ⟨r, O, G, R, h⟩ := h
  unfold eFnX at h
  rw [on_bind] at h
  refine tA_step R (argsR_ok h) fun os r1 vs H1 O1 ⟨ao, h1⟩ R1 E1 p1 => ?_
  cases hg : getsX r1 os with
  | none => rw [hg] at h1; exact False.elim h1
  | some ds =>
    rw [hg] at h1
    exact fn_tail ok hn ao R1 E1 p1 hg h1
theorem me_read {i : Nat} (hs : (ms i).sh = .obj C T) (hT : T.lookup m = none) (ok : okArgs ms pm (.s i :: as) = true) (hn : (Arg.s i :: as).length = n) {Q : VK} (h : tEo X W ms rs (eMe F i as) σ H Q) :
    ∃ a dx fs, σ[i]? = some (some (.ref a)) ∧ H a = some (.ins (He.ga X.K C) dx fs) ∧ fs.lookup m = none ∧ tA X W ms (argsR as) σ H fun vs H1 => spF X.w X.K X.mg pm rs n F (.ref a :: vs) H1 Q (WE W σ) := by
  obtain ⟨r, O, G, R, h⟩ := h
  unfold eMe at h
  split at h
  · rename_i ds0 e0
    obtain ⟨v, e1, rs1⟩ := R.slot i _ (join_some e0)
    rw [hs] at rs1
    obtain ⟨a, dx, fs, ds', B, rfl, _, _, hx, rf, nx⟩ := rs1.objI
    refine ⟨a, dx, fs, e1, hx, rf.mem hT, ?_⟩
    unfold eFnX at h
    have ea : argsR (.s i :: as) r = (argsR as r).bind fun os r2 => .ok (.slot i :: os) r2 := by
      show aCons (oSlot i) (argsR as) r = _
      unfold aCons oSlot
      rw [e0]
      rfl
    rw [ea, on_bind, on_bind] at h
    refine tA_step R (argsR_ok h) fun os r1 vs H1 O1 ⟨ao, h1⟩ R1 E1 p1 => ?_
    have h1 : ((match getsX r1 (.slot i :: os) with
      | some ds => match F ds with
        | .ok d ro => DL.R.ok d (putA (.s i :: as) ro r1)
        | .exc c x ro => DL.R.exc c x (putA (.s i :: as) ro r1)
        | .bad => DL.R.bad
      | none => DL.R.bad : DL.R D)).on _ _ := h1
    cases hg : getsX r1 (.slot i :: os) with
    | none => rw [hg] at h1; exact False.elim h1
    | some ds =>
      rw [hg] at h1
      exact fn_tail ok hn (.s ao) R1 E1 (.cons e1 p1) hg h1
  · exact False.elim h
/-- the method m of the class C keeps its promise -/
def OkM (P : Program) (w : World) (K : PySem.W.Frag) (mg : Str → Option Value) (base : Heap) (k : Nat) (C m : Str) (ps : List Str) (pm : Ms) (rs : Shp) (n : Nat) (F : FS) : Prop :=
  Cls K (He.ga K C) ∧ Meth K (He.ga K C) m (He.ma K (He.ga K C) m) ∧ ∃ fd, Binds K fd ps [] ∧ FnG P w K mg base k (He.ma K (He.ga K C) m) fd ps (spF w K mg pm rs n F)
/-- where a method stands -/
def AtM (K : PySem.W.Frag) (C m qual : Str) (st : Stmt) : Prop := Cls K (He.ga K C) ∧ Meth K (He.ga K C) m (He.ma K (He.ga K C) m) ∧ ∃ fd, FunD K m qual (defArgs st) (defBody st) (defScope st) [] [] (He.ma K (He.ga K C) m) fd
theorem okM_of {P : Program} {w : World} {K : PySem.W.Frag} {mg : Str → Option Value} {base : Heap} {k : Nat} {C x qual : Str} {st : Stmt} {N ps : List Str} {pm ms : Ms} {rs : Shp} {n m : Nat} {g : Rho → SR} (a : AtM K C x qual st) (S : FnScope N ps (defScope st))
    (hbind : ∀ (kV doc pm : Value) (an : Option Addr) (cdv ct : Value) (us : List Value), us.length = ps.length → bindArgs (PySem.W.fnOf x qual (defArgs st) (defBody st) (defScope st) .none kV doc pm an cdv ct) ⟨us, []⟩ = pure (ps.zip us))
    (hn : ps.length = n) (hm : N.length - n = m) (hms : ∀ i, i < n → ms i = pm i) (hrn : rs = .pur ∨ ∀ (ds : List D) (r : Rho), g (ds.map some ++ List.replicate m none) ≠ .nx r)
    (hb : ∀ (cdv : Value) (A : Around) (outer : List Env) (s : Shared) (H : Hp) (E : XK), Room k (A.deeper (envOfC qual (defScope st) s.heap.objs.size (He.ma K (He.ga K C) x) cdv)) → (A.deeper (envOfC qual (defScope st) s.heap.objs.size (He.ma K (He.ga K C) x) cdv)).guards = some [] →
      Takes (cxOf (L2.CX P w) P w K mg base N qual (defScope st) (He.ma K (He.ga K C) x) cdv A outer s H E) (fun cls d _ H' => E cls d H') → CSs (cxOf (L2.CX P w) P w K mg base N qual (defScope st) (He.ma K (He.ga K C) x) cdv A outer s H E) (fun cls d _ H' => E cls d H') ms rs (defBody st) g) :
    OkM P w K mg base (k + 1) C x ps pm rs n (bodyF pm n m g) := by
  obtain ⟨hc, hme, fd, F⟩ := a
  exact ⟨hc, hme, fd, binds_of F hbind, fnG_body F S hn hm hms hrn hb⟩
theorem ceo_me {pl : Sem Bool} (i : Nat) {y : Str} (h : OkM X.prog X.w X.K X.mg X.base j C m ps pm rs n F) (hr : Room k X.A) (hgd : X.A.guards = some []) (tk : Takes X W) (hj : j ≤ k) (ha : CA X W ms (e :: es) (argsR as)) (hs : (ms i).sh = .obj C T := by rfl) (hT : T.lookup m = none := by rfl)
    (ok : okArgs ms pm (.s i :: as) = true := by rfl) (hn : (Arg.s i :: as).length = n := by rfl)
    (hN : X.N[i]? = some y := by rfl) (hv : Vis X.env.scope y := by first | exact Or.inl rfl | exact Or.inr (Or.inl rfl) | exact Or.inr (Or.inr rfl)) (hd : (y == ("__debug__" : Str)) = false := by decide) (hcd : (y == ("__classdict__" : Str)) = false := by decide)
    (hst : starEach (e :: es) X.env = (false, eval e X.env) :: starEach es X.env := by rfl) (hpl : (backTo pos (starEach es X.env)).any (·.1) = false := by rfl)
    (ht : eval (.Call (.Attribute (.Name y ppos) m apos) (e :: es) [] pos) X.env = (do
      let ov ← eval (.Name y ppos) X.env
      standAt apos.atName
      let (f, first) ← holding [ov] (getMethod ov m pl)
      callWith pos f first (backTo pos (starEach (e :: es) X.env)) (backToKw pos (keywordEach [] X.env))) := by rfl) :
    CEo X W ms rs (.Call (.Attribute (.Name y ppos) m apos) (e :: es) [] pos) (eMe F i as) := by
  obtain ⟨c, hm, fd, hb, FN⟩ := h
  refine ⟨fun pins s σ H Q I h => ?_⟩
  obtain ⟨a, dx, fs, e1, hx, l, q⟩ := me_read hs hT ok hn h
  refine PySem.W.methodCall_KW (pl := pl) (thn ((pe_var (X := X) (pos := ppos) hN hv hd hcd).run pins s σ H (fun v H' => v = .ref a ∧ H' = H) I ⟨_, e1, rfl, rfl⟩) fun u s1 ⟨x, H1, I1, rx, ex, eH⟩ => ?_) ht
  subst ex eH
  obtain rfl : u = Value.ref a := rx
  refine getmeth_ok I1 hx c hm l ?_
  refine PySem.W.callWith_K (first := [.ref a]) (h₀ := X.base) I.ok.mod.kin hm.kp (thn (ha.run pos pins s1 σ _ _ I1 q) fun us s2 ⟨vs, H2, I2, r, q2⟩ => ⟨I2.kIn, ?_⟩) hst hpl
  exact run_fnG (us := .ref a :: us) (vs := .ref a :: vs) FN (hr.mono hj) hgd hb (passAt tk σ) I2 (.cons rfl r) q2
theorem ceo_me0 {pl : Sem Bool} (i : Nat) {y : Str} (h : OkM X.prog X.w X.K X.mg X.base j C m ps pm rs n F) (hr : Room k X.A) (hgd : X.A.guards = some []) (tk : Takes X W) (hj : j ≤ k) (hs : (ms i).sh = .obj C T := by rfl) (hT : T.lookup m = none := by rfl)
    (ok : okArgs ms pm [.s i] = true := by rfl) (hn : [Arg.s i].length = n := by rfl)
    (hN : X.N[i]? = some y := by rfl) (hv : Vis X.env.scope y := by first | exact Or.inl rfl | exact Or.inr (Or.inl rfl) | exact Or.inr (Or.inr rfl)) (hd : (y == ("__debug__" : Str)) = false := by decide) (hcd : (y == ("__classdict__" : Str)) = false := by decide)
    (ht : eval (.Call (.Attribute (.Name y ppos) m apos) [] [] pos) X.env = (do
      let ov ← eval (.Name y ppos) X.env
      standAt apos.atName
      let (f, first) ← holding [ov] (getMethod ov m pl)
      callWith pos f first (backTo pos (starEach [] X.env)) (backToKw pos (keywordEach [] X.env))) := by rfl) :
    CEo X W ms rs (.Call (.Attribute (.Name y ppos) m apos) [] [] pos) (eMe F i []) := by
  obtain ⟨c, hm, fd, hb, FN⟩ := h
  refine ⟨fun pins s σ H Q I h => ?_⟩
  obtain ⟨a, dx, fs, e1, hx, l, q⟩ := me_read hs hT ok hn h
  refine PySem.W.methodCall_KW (pl := pl) (thn ((pe_var (X := X) (pos := ppos) hN hv hd hcd).run pins s σ H (fun v H' => v = .ref a ∧ H' = H) I ⟨_, e1, rfl, rfl⟩) fun u s1 ⟨x, H1, I1, rx, ex, eH⟩ => ?_) ht
  subst ex eH
  obtain rfl : u = Value.ref a := rx
  refine getmeth_ok I1 hx c hm l ?_
  obtain ⟨r2, O2, G2, R2, q2⟩ := q
  exact PySem.W.callWith_K0 (first := [.ref a]) I1.kIn hm.kp (run_fnG (us := [.ref a]) (vs := [.ref a]) FN (hr.mono hj) hgd hb (passAt tk σ) I1 (.cons rfl .nil) (q2 [] _ O2 R2 .refl .nil))
end
end DL
end

section
set_option maxHeartbeats 1000000
namespace DL
open PySem PySem.Spec PyProof.Rows L2
/-! ## a call whose first argument is an object of one's own that nobody else has: C(..), C(..).m(..) -/
/-- all parameters but the first are pure -/
def okSelf (pm : Ms) (n : Nat) : Bool := (List.range n).all fun j => j == 0 || decide ((pm (j + 0)).sh = .pur)
theorem okSelf_at {pm : Ms} {n j : Nat} (h : okSelf pm n = true) (hj : j + 1 < n) : (pm (j + 1)).sh = .pur := by
  have := List.all_eq_true.mp h (j + 1) (List.mem_range.mpr hj)
  simpa using this
def ownS (A : List Addr) : Own := fun j => if j = 0 then A else []
section
variable {w : World} {K : PySem.W.Frag} {ms pm : Ms} {σ : L2.St} {H H' : Hp} {r : Rho} {O O' : Own} {G : Gh} {A B : List Addr} {v : V} {vs : List V} {d : D} {ds : List D}
theorem ow_s {a : Addr} : Ow (ownS A) (Ow O G) a ↔ Ow O (GA A G) a := by
  constructor
  · rintro (g | ⟨j, hj⟩)
    · rcases g with g | ⟨i, hi⟩
      · exact .inl (.inr g)
      · exact .inr ⟨i, hi⟩
    · unfold ownS at hj
      split at hj
      · exact .inl (.inl hj)
      · cases hj
  · rintro ((g | g) | ⟨i, hi⟩)
    · exact .inr ⟨0, by unfold ownS; rw [if_pos rfl]; exact g⟩
    · exact .inl (.inl g)
    · exact .inl (.inr ⟨i, hi⟩)
theorem ow_s' : Ow (ownS A) (Ow O G) = Ow O (GA A G) := funext fun a => propext ow_s
theorem Rel.enterS {n : Nat} (R : Rel w K ms σ H r O (GA A G)) (nA : ∀ a ∈ A, ¬ G a) (rs : RepS w K (msk H (Ow O (GA A G))) H (pm 0).sh v d A) (ra : RepAll K (msk H (Ow O (GA A G))) vs ds) (hn : (v :: vs).length = n) (hp : okSelf pm n = true) :
    Rel w K pm ((v :: vs).map some) H ((d :: ds).map some) (ownS A) (Ow O G) := by
  have hl := ra.len
  refine ⟨by rw [List.length_map, List.length_map, List.length_cons, List.length_cons, hl], fun j e he => ?_, fun j hj => ?_, fun a g => ?_, fun i j a hi hj => ?_, fun i a hi => ?_⟩
  · rw [ow_s']
    cases j with
    | zero => cases he; exact ⟨v, rfl, rs⟩
    | succ j =>
      have he : (ds.map some)[j]? = some (some e) := he
      rw [List.getElem?_map] at he
      cases q : ds[j]? with
      | none => rw [q] at he; cases he
      | some y =>
        rw [q] at he
        cases he
        obtain ⟨u, eu, ru⟩ := ra.get q
        have hlt : j < vs.length := (List.getElem?_eq_some_iff.mp eu).1
        refine ⟨u, by show (vs.map some)[j]? = _; rw [List.getElem?_map, eu]; rfl, ?_⟩
        rw [okSelf_at hp (by rw [← hn, List.length_cons]; omega)]
        show RepS w K _ H .pur u e (ownS A (j + 1))
        unfold ownS
        rw [if_neg (Nat.succ_ne_zero j)]
        exact .pur ru
  · unfold ownS
    split
    · rename_i z; subst z; exact absurd rfl (hj d)
    · rfl
  · rcases g with g | ⟨i, hi⟩
    · exact R.tr a (.inr g)
    · exact R.trO a (.inr ⟨i, hi⟩)
  · unfold ownS at hi hj
    split at hi
    · split at hj
      · rename_i z1 z2; rw [z1, z2]
      · cases hj
    · cases hi
  · unfold ownS at hi
    split at hi
    · rintro (g | ⟨k, hk⟩)
      · exact nA a hi g
      · exact R.dG k a hk (.inl hi)
    · cases hi
theorem Rel.leaveS {n : Nat} {ro : Rho} {Oc : Own} (R : Rel w K ms σ H r O (GA A G)) (Rc : Rel w K pm ((v :: vs).map some) H' ro Oc (GA B (Ow O G))) (Ec : Ext H (ownS A) (Ow O G) H' Oc (GA B (Ow O G))) (nB : ∀ a ∈ B, ¬ Ow O G a) (hn : (v :: vs).length = n) (hp : okSelf pm n = true) :
    (∀ a, Ow Oc (GA B (Ow O G)) a ↔ Ow O (GA (Oc 0) (GA B G)) a) ∧ Rel w K ms σ H' r O (GA (Oc 0) (GA B G)) ∧ Same (msk H (Ow O (GA A G))) (msk H' (Ow O (GA (Oc 0) (GA B G)))) ∧ (∀ a, G a → H' a = H a) ∧ (∀ a ∈ Oc 0, ¬ Ow O G a) ∧ (∀ a ∈ Oc 0, a ∉ B) := by
  have hO : ∀ j, Oc (j + 1) = [] := fun j => by
    by_cases z : ∃ d, ro[j + 1]? = some (some d)
    · obtain ⟨d, e⟩ := z
      obtain ⟨u, e1, rs⟩ := Rc.slot _ d e
      have hlt := (List.getElem?_eq_some_iff.mp e1).1
      rw [List.length_map, hn] at hlt
      rw [okSelf_at hp hlt] at rs
      exact rs.purI.1
    · exact Rc.emp _ fun d e => z ⟨d, e⟩
  have ow : ∀ a, Ow Oc (GA B (Ow O G)) a ↔ Ow O (GA (Oc 0) (GA B G)) a := fun a => by
    constructor
    · rintro ((g | g | ⟨i, hi⟩) | ⟨j, hj⟩)
      · exact .inl (.inr (.inl g))
      · exact .inl (.inr (.inr g))
      · exact .inr ⟨i, hi⟩
      · cases j with
        | zero => exact .inl (.inl hj)
        | succ j => rw [hO j] at hj; cases hj
    · rintro ((g | g | g) | ⟨i, hi⟩)
      · exact .inr ⟨0, g⟩
      · exact .inl (.inl g)
      · exact .inl (.inr (.inl g))
      · exact .inl (.inr (.inr ⟨i, hi⟩))
  have owe : Ow Oc (GA B (Ow O G)) = Ow O (GA (Oc 0) (GA B G)) := funext fun a => propext (ow a)
  have sm : Same (msk H (Ow O (GA A G))) (msk H' (Ow O (GA (Oc 0) (GA B G)))) := by
    rw [← owe, ← ow_s']
    exact Ec.sm
  have n0 : ∀ a ∈ Oc 0, ¬ (GA B (Ow O G)) a := fun a ha => Rc.dG 0 a ha
  refine ⟨ow, ⟨R.len, fun i d e => ?_, R.emp, ?_, R.dj, fun i a hi => ?_⟩, sm, fun a g => (Ec.gh a (.inl g)).2, fun a ha g => n0 a ha (.inr g), fun a ha g => n0 a ha (.inl g)⟩
  · obtain ⟨u, e1, rs⟩ := R.slot i d e
    exact ⟨u, e1, rs.mono sm fun a ha o ho => by rw [(Ec.gh a (.inr ⟨i, ha⟩)).2]; exact ho⟩
  · rintro a (g | g | g)
    · exact Rc.trO a (.inr ⟨0, g⟩)
    · exact Rc.tr a (.inl g)
    · exact Rc.tr a (.inr (.inl g))
  · rintro (g | g | g)
    · exact n0 a g (.inr (.inr ⟨i, hi⟩))
    · exact nB a g (.inr ⟨i, hi⟩)
    · exact R.dG i a hi (.inr g)
/-- what is guarded beside is let go -/
theorem ga_swap : GA A (GA B G) = GA B (GA A G) := funext fun a => propext ⟨fun h => h.elim (fun z => .inr (.inl z)) fun h => h.elim .inl fun z => .inr (.inr z), fun h => h.elim (fun z => .inr (.inl z)) fun h => h.elim .inl fun z => .inr (.inr z)⟩
end
/-- o.m(..), o an instance that an expression has made -/
def eMeT (n : Nat) (f : Rho → R D) (F : FS) (as : Rho → R (List Opd)) : Rho → R D := fun r => (f r).bind fun d r1 => match d with
  | .dict _ => (as r1).bind fun os r2 => match vals os with
    | some ds => if (d :: ds).length = n then match F (d :: ds) with
      | .ok v _ => .ok v r2
      | .exc c x _ => .exc c x r2
      | .bad => .bad else .bad
    | none => .bad
  | _ => .bad
/-- C(..): F is what __init__ does -/
def eNew (n : Nat) (F : FS) (as : Rho → R (List Opd)) : Rho → R D := fun r => (as r).bind fun os r1 => match vals os with
  | some ds => if (PyData.dict [] :: ds).length = n then match F (.dict [] :: ds) with
    | .ok .none (some d :: _) => .ok d r1
    | .exc c x _ => .exc c x r1
    | _ => .bad else .bad
  | none => .bad
section
variable {X : Cx} {W : WX} {ms pm : Ms} {rs : Shp} {σ : L2.St} {H : Hp} {r : Rho} {O : Own} {G : Gh} {k j n : Nat} {F : FS} {x m C : Str} {T : List (Str × Fk)} {p pos ppos apos : Pos} {e o : Expr} {es : List Expr} {as : Rho → R (List Opd)} {f : Rho → R D} {ps : List Str}
theorem run_makeG {fd : FuncData} {f C : Addr} {sp : Sp} {E : XK} {pins : List (Addr × Obj)} {s : Shared} {Q : VK} {us : List Value} {vs : List V} (M : Mk X.K C f) (FN : FnG X.prog X.w X.K X.mg X.base k f fd ps sp) (hr : Room (k + 1) X.A) (hgd : X.A.guards = some []) (hb : Binds X.K fd ps [])
    (hx : PassesAt (L2.CX X.prog X.w) X σ E) (I : Inv X pins σ H s) (r : Vals vs us)
    (h : ∀ x dx, H x = none → H dx = none → dx ≠ x → sp (.ref x :: vs) (upd (upd H dx (.own x)) x (.ins C dx [])) (fun v H2 => v = .non ∧ Q (.ref x) H2) E) :
    wpAny (model X.prog X.w) X.A (call (.ref C) us) (EP X pins σ Q) X.xe s := by
  have hq := h (s.heap.objs.size + 1) s.heap.objs.size (I.hok.fresh (Nat.le_succ _)) (I.hok.fresh (Nat.le_refl _)) (Nat.ne_of_lt (Nat.lt_succ_self _))
  have I2 := Inv.made (C := C) I
  have r2 : Vals (V.ref (s.heap.objs.size + 1) :: vs) (Value.ref (s.heap.objs.size + 1) :: us) := .cons rfl r
  have hl : (Value.ref (s.heap.objs.size + 1) :: us ++ []).length = ps.length := by
    have e := r2.length
    rw [FN.len _ _ _ _ hq] at e
    rw [List.append_nil]
    exact e.symm
  have b := hb _ (Value.ref (s.heap.objs.size + 1) :: us) I2.kIn hl
  rw [List.append_nil] at b
  have hgd' : (X.A.under (.builtin "type.__call__" ⟨.ref C :: us, []⟩)).guards = some [] := by
    show pushGuards (Code.guards (.builtin "type.__call__" ⟨.ref C :: us, []⟩)) X.A.guards = some []
    rw [hgd]
    rfl
  refine wpAny_call (make_map (f := f) I.kIn M.makes M.init (beq_iff_eq.mp M.fn) (codeAny_mono (FN.run _ X.stack _ _ ⟨Value.ref (s.heap.objs.size + 1) :: us, []⟩ (Value.ref (s.heap.objs.size + 1) :: us) _ _ E (hr.make C us []) hgd'
    (I2.env0.make C us []) b r2 hq) fun r s' hq' => ?_))
  cases r with
  | error e => exact hx pins _ _ e s' I2 hq'
  | ok fl =>
    cases fl with
    | ret u =>
      obtain ⟨v, H', I3, rv, ev, q3⟩ := I2.after hq'
      subst ev
      exact ⟨rv, ⟨V.ref (s.heap.objs.size + 1), H', I3, rfl, q3⟩⟩
    | next => exact False.elim hq'
    | brk => exact False.elim hq'
    | cont => exact False.elim hq'
/-- the class C is made by an __init__ that keeps its promise -/
def OkI (P : Program) (w : World) (K : PySem.W.Frag) (mg : Str → Option Value) (base : Heap) (k : Nat) (C : Str) (ps : List Str) (pm : Ms) (n : Nat) (F : FS) : Prop :=
  Mk K (He.ga K C) (He.ma K (He.ga K C) "__init__") ∧ mg C = some (.ref (He.ga K C)) ∧ ∃ fd, Binds K fd ps [] ∧ FnG P w K mg base k (He.ma K (He.ga K C) "__init__") fd ps (spF w K mg pm .pur n F)
theorem okI_of {P : Program} {w : World} {K : PySem.W.Frag} {mg : Str → Option Value} {base : Heap} {C : Str} (M : Mk K (He.ga K C) (He.ma K (He.ga K C) "__init__")) (hm : mg C = some (.ref (He.ga K C))) (h : OkM P w K mg base k C "__init__" ps pm .pur n F) : OkI P w K mg base k C ps pm n F := by
  obtain ⟨_, _, fd, hb, FN⟩ := h
  exact ⟨M, hm, fd, hb, FN⟩
/-- a call's reading with an object of one's own in front -/
theorem self_tail {H1 : Hp} {r1 : Rho} {O1 : Own} {A : List Addr} {a : Addr} {vs : List V} {d0 : D} {ds : List D} {Q : VK} (hn : (V.ref a :: vs).length = n) (hp : okSelf pm n = true)
    (R1 : Rel X.w X.K ms σ H1 r1 O1 (GA A G)) (E1 : Ext H O G H1 O1 (GA A G)) (nA : ∀ a ∈ A, ¬ G a) (rsA : RepS X.w X.K (msk H1 (Ow O1 (GA A G))) H1 (pm 0).sh (.ref a) d0 A) (ra : RepAll X.K (msk H1 (Ow O1 (GA A G))) vs ds)
    {R0 : D → Rho → Prop} (hF : (F (d0 :: ds)).on (fun v ro => R0 v ro) (fun c x ro => Bx X W ms σ H O G c x r1))
    (q : ∀ v0 ro, R0 v0 ro → ∀ v H' Oc B, Rel X.w X.K pm ((V.ref a :: vs).map some) H' ro Oc (GA B (Ow O1 G)) → Rel X.w X.K ms σ H' r1 O1 (GA (Oc 0) (GA B G)) → Ext H O G H' O1 (GA (Oc 0) (GA B G)) → (∀ b ∈ B, ¬ Ow O1 G b) → (∀ b ∈ Oc 0, ¬ Ow O1 G b) → (∀ b ∈ Oc 0, b ∉ B) → RepS X.w X.K (msk H' (Ow O1 (GA (Oc 0) (GA B G)))) H' rs v v0 B → (msk H' (Ow Oc (GA B (Ow O1 G))) = msk H' (Ow O1 (GA (Oc 0) (GA B G)))) → Q v H') :
    spF X.w X.K X.mg pm rs n F (.ref a :: vs) H1 Q (WE W σ) := by
  have Rc := R1.enterS (pm := pm) nA rsA ra hn hp
  refine ⟨d0 :: ds, ownS A, Ow O1 G, hn, by rw [← hn, List.length_cons, List.length_cons, ra.len], Rc, ?_⟩
  cases eF : F (d0 :: ds) with
  | bad => rw [eF] at hF; exact False.elim hF
  | ok v0 ro =>
    rw [eF] at hF
    intro v H' Oc B R' E' nB rp
    obtain ⟨ow, R2, sm, gh, n0, n1⟩ := R1.leaveS R' E' nB hn hp
    have owe : msk H' (Ow Oc (GA B (Ow O1 G))) = msk H' (Ow O1 (GA (Oc 0) (GA B G))) := by rw [show Ow Oc (GA B (Ow O1 G)) = _ from funext fun a => propext (ow a)]
    rw [owe] at rp
    exact q v0 ro hF v H' Oc B R' R2 ⟨E1.sm.trans sm, fun b g => ⟨.inr (.inr g), (gh b g).trans (E1.gh b g).2⟩⟩ nB n0 n1 rp owe
  | exc c y ro =>
    rw [eF] at hF
    intro cv dx H' Oc R' E' ex
    have R'' : Rel X.w X.K pm ((V.ref a :: vs).map some) H' ro Oc (GA [] (Ow O1 G)) := by rw [ga_nil]; exact R'
    have E'' : Ext H1 (ownS A) (Ow O1 G) H' Oc (GA [] (Ow O1 G)) := by rw [ga_nil]; exact E'
    obtain ⟨ow, R2, sm, gh, n0, n1⟩ := R1.leaveS R'' E'' (fun _ z => nomatch z) hn hp
    rw [ga_nil] at R2 sm
    have E2 : Ext H O G H' O1 (GA (Oc 0) G) := ⟨E1.sm.trans sm, fun b g => ⟨.inr g, (gh b g).trans (E1.gh b g).2⟩⟩
    exact hF cv dx H' O1 R2.free (ext_free E2) ex
theorem new_read {Q : VK} (hs : (pm 0).sh = .obj C T) (hp : okSelf pm n = true) (h : tEo X W ms (.obj C T) (eNew n F as) σ H Q) : tA X W ms as σ H fun vs H1 => ∀ x dx, H1 x = none → H1 dx = none → dx ≠ x → spF X.w X.K X.mg pm .pur n F (.ref x :: vs) (upd (upd H1 dx (.own x)) x (.ins (He.ga X.K C) dx [])) (fun v H2 => v = .non ∧ Q (.ref x) H2) (WE W σ) := by
  obtain ⟨r, O, G, R, h⟩ := h
  unfold eNew at h
  rw [on_bind] at h
  refine tA_step R h fun os r1 vs H1 O1 h1 R1 E1 p1 x dx hx hdx ne => ?_
  cases hv : vals os with
  | none => rw [hv] at h1; exact False.elim h1
  | some ds =>
    rw [hv] at h1
    have ra := p1.vals hv
    by_cases hn' : (PyData.dict [] :: ds).length = n
    · have hn : (V.ref x :: vs).length = n := by rw [← hn', List.length_cons, List.length_cons, ra.len]
      simp only at h1
      rw [if_pos hn'] at h1
      have s1 : Same H1 (upd H1 dx (.own x)) := fun b u e => by rw [upd_ne (ne_of_none e hdx)]; exact e
      have hx' : upd H1 dx (.own x) x = none := by rw [upd_ne (Ne.symm ne)]; exact hx
      obtain ⟨R2, E2⟩ := (R1.same s1).guard (o := .ins (He.ga X.K C) dx []) hx'
      have E12 : Ext H1 O1 G (upd (upd H1 dx (.own x)) x (.ins (He.ga X.K C) dx [])) O1 (GA [x] G) := (Ext.same s1 R1.tr).trans E2
      refine self_tail (A := [x]) (d0 := .dict []) (R0 := fun v0 ro => v0 = .none ∧ ∃ d rt, ro = some d :: rt ∧ ∀ v H' O' A, Rel X.w X.K ms σ H' r1 O' (GA A G) → Ext H O G H' O' (GA A G) → (∀ a ∈ A, ¬ G a) → RepS X.w X.K (msk H' (Ow O' (GA A G))) H' (.obj C T) v d A → Q v H') hn hp R2 (E1.trans E12)
        (fun a ha g => R1.tr a g (by rw [List.mem_singleton.mp ha]; exact hx)) ?_ (RepAll.mono E12.sm ra) ?_ ?_
      · rw [hs]
        exact .obj upd_same .nil (fun z => nomatch z)
      · cases hF : F (.dict [] :: ds) with
        | bad => rw [hF] at h1; exact False.elim h1
        | exc c y ro => rw [hF] at h1; exact h1
        | ok v0 ro =>
          rw [hF] at h1
          cases v0 <;> first | exact False.elim h1 | skip
          cases ro with
          | nil => exact False.elim h1
          | cons a rt =>
            cases a with
            | none => exact False.elim h1
            | some d => exact ⟨rfl, d, rt, rfl, h1⟩
      · rintro v0 ro ⟨rfl, d, rt, rfl, h2⟩ v H' Oc B R' R2' E2' nB n0 n1 rp owe
        obtain ⟨rfl, rv⟩ := rp.purI
        refine ⟨rv.nonI, ?_⟩
        rw [ga_nil] at R2' E2'
        obtain ⟨u, e1, rs1⟩ := R'.slot 0 d rfl
        cases e1
        rw [hs, owe, ga_nil] at rs1
        exact h2 _ H' O1 (Oc 0) R2' E2' (fun a ha g => n0 a ha (.inl g)) rs1
    · simp only at h1
      rw [if_neg hn'] at h1
      exact False.elim h1
theorem ceo_new (h : OkI X.prog X.w X.K X.mg X.base j C ps pm n F) (hr : Room k X.A) (hgd : X.A.guards = some []) (tk : Takes X W) (hj : j + 1 ≤ k) (ha : CA X W ms (e :: es) as) (hs : (pm 0).sh = .obj C T := by rfl) (hp : okSelf pm n = true := by rfl) (hg : Gl X C := by rfl) (hdb : (C == ("__debug__" : Str)) = false := by decide)
    (he : starEach (e :: es) X.env = (false, eval e X.env) :: starEach es X.env := by rfl) (hpl : (backTo pos (starEach es X.env)).any (·.1) = false := by rfl) :
    CEo X W ms (.obj C T) (.Call (.Name C p) (e :: es) [] pos) (eNew n F as) := by
  obtain ⟨M, hm, fd, hb, FN⟩ := h
  refine ⟨fun pins s σ H Q I h => ?_⟩
  refine wpAny_Call_Name_kw (ld_glob I hg hm ?_ hdb)
  refine PySem.W.callWith_K (h₀ := X.base) I.ok.mod.kin M.kp (thn (ha.run pos pins s σ H _ I (new_read hs hp h)) fun us s1 ⟨vs, H1, I1, r, q⟩ => ⟨I1.kIn, ?_⟩) he hpl
  exact run_makeG M FN (hr.mono hj) hgd hb (passAt tk σ) I1 r fun x dx hx hdx ne => q x dx hx hdx ne
/-- o.m(..), o an instance that an expression has made -/
theorem met_read {Q : VK} (hp : okSelf pm n = true) (hs : (pm 0).sh = .obj C T) (hT : T.lookup m = none) (h : tEo X W ms rs (eMeT n f F as) σ H Q) : tEo X W ms (.obj C T) f σ H fun x H1 => ∃ a dx fs, x = .ref a ∧ H1 a = some (.ins (He.ga X.K C) dx fs) ∧ fs.lookup m = none ∧ tA X W ms as σ H1 fun vs H2 => spF X.w X.K X.mg pm rs n F (.ref a :: vs) H2 Q (WE W σ) := by
  obtain ⟨r, O, G, R, h⟩ := h
  unfold eMeT at h
  rw [on_bind] at h
  refine tEo_step R h fun d r1 v H1 O1 A h1 R1 E1 nA rsA => ?_
  obtain ⟨x, dx, fs, ds0, B0, rfl, rfl, eA, hx, rf, nx⟩ := rsA.objI
  refine ⟨x, dx, fs, rfl, hx, rf.mem hT, ?_⟩
  simp only at h1
  rw [on_bind] at h1
  have hb1 : ((as r1)).on _ (Bx X W ms σ H1 O1 (GA A G)) := h1.mono (fun _ _ z => z) fun c y r' hB cv dx' H' O' R' E' ex => hB cv dx' H' O' R'.free (E1.trans E' |> ext_free) ex
  refine ⟨r1, O1, GA A G, R1, hb1.mono (fun os r2 h2 vs H2 O2 R2 E2 p2 => ?_) fun _ _ _ z => z⟩
  cases hv : vals os with
  | none => rw [hv] at h2; exact False.elim h2
  | some ds =>
    rw [hv] at h2
    have ra := p2.vals hv
    simp only at h2
    by_cases hn' : (PyData.dict ds0 :: ds).length = n
    · rw [if_pos hn'] at h2
      have hn : (V.ref x :: vs).length = n := by rw [← hn', List.length_cons, List.length_cons, ra.len]
      have rsA2 : RepS X.w X.K (msk H2 (Ow O2 (GA A G))) H2 (.obj C T) (.ref x) (.dict ds0) A := rsA.mono E2.sm fun a ha o ho => by rw [(E2.gh a (.inl ha)).2]; exact ho
      refine self_tail (A := A) (d0 := .dict ds0) (R0 := fun v0 _ => ∀ v H' O' A, Rel X.w X.K ms σ H' r2 O' (GA A G) → Ext H O G H' O' (GA A G) → (∀ a ∈ A, ¬ G a) → RepS X.w X.K (msk H' (Ow O' (GA A G))) H' rs v v0 A → Q v H') hn hp R2 (E1.trans E2) nA (by rw [hs]; exact rsA2) ra ?_ ?_
      · cases hF : F (.dict ds0 :: ds) with
        | bad => rw [hF] at h2; exact False.elim h2
        | exc c y ro => rw [hF] at h2; exact h2
        | ok v0 ro => rw [hF] at h2; exact h2
      · intro v0 ro h3 v H' Oc B R' R2' E2' nB n0 n1 rp owe
        exact h3 v H' O2 B R2'.free ⟨E2'.sm.trans (msk_less fun a z => z.elim (fun g => .inl (.inr g)) .inr), fun a g => ⟨.inr g, (E2'.gh a g).2⟩⟩ (fun a ha g => nB a ha (.inl g)) (rp.mono (msk_less fun a z => z.elim (fun g => .inl (.inr g)) .inr) fun _ _ _ z => z)
    · rw [if_neg hn'] at h2
      exact False.elim h2
theorem ceo_met {pl : Sem Bool} (ho : CEo X W ms (.obj C T) o f) (h : OkM X.prog X.w X.K X.mg X.base j C m ps pm rs n F) (hr : Room k X.A) (hgd : X.A.guards = some []) (tk : Takes X W) (hj : j ≤ k) (ha : CA X W ms (e :: es) as) (hs : (pm 0).sh = .obj C T := by rfl) (hp : okSelf pm n = true := by rfl) (hT : T.lookup m = none := by rfl)
    (hst : starEach (e :: es) X.env = (false, eval e X.env) :: starEach es X.env := by rfl) (hpl : (backTo pos (starEach es X.env)).any (·.1) = false := by rfl)
    (ht : eval (.Call (.Attribute o m apos) (e :: es) [] pos) X.env = (do
      let ov ← eval o X.env
      standAt apos.atName
      let (f, first) ← holding [ov] (getMethod ov m pl)
      callWith pos f first (backTo pos (starEach (e :: es) X.env)) (backToKw pos (keywordEach [] X.env))) := by rfl) :
    CEo X W ms rs (.Call (.Attribute o m apos) (e :: es) [] pos) (eMeT n f F as) := by
  obtain ⟨c, hm, fd, hb, FN⟩ := h
  refine ⟨fun pins s σ H Q I h => ?_⟩
  refine PySem.W.methodCall_KW (pl := pl) (thn (ho.run pins s σ H _ I (met_read hp hs hT h)) fun u s1 ⟨x, H1, I1, rx, a, dx, fs, ex, hx, l, q⟩ => ?_) ht
  subst ex
  obtain rfl : u = Value.ref a := rx
  refine getmeth_ok I1 hx c hm l ?_
  refine PySem.W.callWith_K (first := [.ref a]) (h₀ := X.base) I.ok.mod.kin hm.kp (thn (ha.run pos pins s1 σ _ _ I1 q) fun us s2 ⟨vs, H2, I2, r, q2⟩ => ⟨I2.kIn, ?_⟩) hst hpl
  exact run_fnG (us := .ref a :: us) (vs := .ref a :: vs) FN (hr.mono hj) hgd hb (passAt tk σ) I2 (.cons rfl r) q2
theorem ceo_met0 {pl : Sem Bool} (ho : CEo X W ms (.obj C T) o f) (h : OkM X.prog X.w X.K X.mg X.base j C m ps pm rs n F) (hr : Room k X.A) (hgd : X.A.guards = some []) (tk : Takes X W) (hj : j ≤ k) (hs : (pm 0).sh = .obj C T := by rfl) (hp : okSelf pm n = true := by rfl) (hT : T.lookup m = none := by rfl)
    (ht : eval (.Call (.Attribute o m apos) [] [] pos) X.env = (do
      let ov ← eval o X.env
      standAt apos.atName
      let (f, first) ← holding [ov] (getMethod ov m pl)
      callWith pos f first (backTo pos (starEach [] X.env)) (backToKw pos (keywordEach [] X.env))) := by rfl) :
    CEo X W ms rs (.Call (.Attribute o m apos) [] [] pos) (eMeT n f F aNil) := by
  obtain ⟨c, hm, fd, hb, FN⟩ := h
  refine ⟨fun pins s σ H Q I h => ?_⟩
  refine PySem.W.methodCall_KW (pl := pl) (thn (ho.run pins s σ H _ I (met_read hp hs hT h)) fun u s1 ⟨x, H1, I1, rx, a, dx, fs, ex, hx, l, q⟩ => ?_) ht
  subst ex
  obtain rfl : u = Value.ref a := rx
  refine getmeth_ok I1 hx c hm l ?_
  obtain ⟨r2, O2, G2, R2, q2⟩ := q
  exact PySem.W.callWith_K0 (first := [.ref a]) I1.kIn hm.kp (run_fnG (us := [.ref a]) (vs := [.ref a]) FN (hr.mono hj) hgd hb (passAt tk σ) I1 (.cons rfl .nil) (q2 [] _ O2 R2 .refl .nil))
/-- o.f, o an instance that an expression has made -/
def eAtT (f : Rho → R D) (x : Str) : Rho → R D := fun r => (f r).bind fun d r1 => match d with
  | .dict ds => .ofO (fldD ds x) r1
  | _ => .bad
theorem ce_atT {fk : Fk} (ho : CEo X W ms (.obj C T) o f) (fo : FOk X.K C x) (hT : T.lookup x = some fk := by rfl) (hk : fk = .pur ∨ fk = .lst := by first | exact .inl rfl | exact .inr rfl) (hb : attributeBase o x X.env (eval o X.env) = eval o X.env := by rfl) : CE X W ms (.Attribute o x pos) (eAtT f x) :=
  (pe_fld ho hb).weak fun σ H Q ⟨r, O, G, R, h⟩ => by
    unfold eAtT at h
    rw [on_bind] at h
    refine tEo_step R h fun d r1 v H1 O1 A h1 R1 E1 nA rsA => ?_
    obtain ⟨a, dx, fs, ds0, B0, rfl, rfl, eA, hx, rf, nx⟩ := rsA.objI
    obtain ⟨d, e, q⟩ := on_ofO h1
    obtain ⟨v, fk', B, h1, h2, h3, h4, _⟩ := rf.at_ e
    rw [hT] at h2
    cases h2
    refine ⟨a, _, dx, fs, v, rfl, hx, fo.cl, fo.na, h1, q v H1 O1 R1.free (ext_free E1) ?_⟩
    have sm : Same (msk H1 (Ow O1 (GA A G))) (msk H1 (Ow O1 G)) := msk_less fun a z => z.elim (fun g => .inl (.inr g)) .inr
    rcases hk with rfl | rfl
    · cases h3 with
      | pur h => exact h.mono sm
    · cases h3 with
      | @lst b vs ds h ra =>
        refine .lst (.inl (msk_mk ?_ h)) (RepAll.mono sm ra)
        have hA : b ∈ A := by rw [eA]; exact List.mem_cons_of_mem _ (h4 _ List.mem_cons_self)
        rintro (g | ⟨i, hi⟩)
        · exact nA _ hA g
        · exact R1.dG i _ hi (.inl hA)
end
end DL
end

section
set_option maxHeartbeats 1000000
namespace DL
open PySem PySem.Spec PyProof.Rows L2
/-! ## stores into a field -/
def putFd (i : Nat) (x : Str) (d : D) (r : Rho) : SR := match (r[i]?).join with
  | some (.dict ds) => if ds.length < 1000 then .nx (r.set i (some (.dict (setFD ds x d)))) else .bad
  | _ => .bad
def sFset (i : Nat) (x : Str) (f : Rho → R D) : Rho → SR := fun r => (f r).toS fun d r1 => putFd i x d r1
theorem RepFs.len {w : World} {K : PySem.W.Frag} {M H : Hp} {T : List (Str × Fk)} : ∀ {fs : List (Str × V)} {ds : List (D × D)} {A : List Addr}, RepFs w K M H T fs ds A → fs.length = ds.length
  | _, _, _, .nil => rfl
  | _, _, _, .cons _ _ t _ => congrArg Nat.succ t.len
section
variable {X : Cx} {W : WX} {ms : Ms} {rs : Shp} {σ : L2.St} {H : Hp} {r : Rho} {O : Own} {G : Gh} {C x y : Str} {T : List (Str × Fk)} {fk : Fk} {pos p1 p2 : Pos} {e : Expr} {f : Rho → R D} {i : Nat}
theorem Rel.putFld {B : List Addr} {ds : List (D × D)} {v : V} {d : D} (R : Rel X.w X.K ms σ H r O (GA B G)) (hB : ∀ b ∈ B, ¬ G b) (hs : (ms i).sh = .obj C T) (hT : T.lookup x = some fk) (er : r[i]? = some (some (.dict ds))) (hv : RepF X.w X.K (msk H (Ow O (GA B G))) H fk v d B) :
    ∃ a dx fs O', σ[i]? = some (some (.ref a)) ∧ H a = some (.ins (He.ga X.K C) dx fs) ∧ fs.length = ds.length ∧ Rel X.w X.K ms σ (upd H a (.ins (He.ga X.K C) dx (putF x v fs))) (r.set i (some (.dict (setFD ds x d)))) O' G ∧
      Same (msk H (Ow O (GA B G))) (msk (upd H a (.ins (He.ga X.K C) dx (putF x v fs))) (Ow O' G)) ∧ ∀ b, G b → upd H a (.ins (He.ga X.K C) dx (putF x v fs)) b = H b := by
  obtain ⟨u, e1, rs1⟩ := R.slot i _ er
  rw [hs] at rs1
  obtain ⟨a, dx, fs, ds', B0, rfl, ed, eA, hx, rf, nx⟩ := rs1.objI
  cases ed
  have haO : a ∈ O i := by rw [eA]; exact List.mem_cons_self
  have hBO : ∀ b ∈ B, b ∉ O i := fun b hb z => R.dG i b z (.inl hb)
  obtain ⟨A', h1, h2⟩ := rf.put hT hv fun b hb z => hBO b hb (by rw [eA]; exact List.mem_cons_of_mem _ z)
  have naA : a ∉ A' := fun z => (h2 a z).elim nx fun z => hBO a z haO
  have hA : ∀ b ∈ a :: A', b ∈ O i ∨ b ∈ B := fun b hb => (List.mem_cons.mp hb).elim (fun z => .inl (z ▸ haO)) fun z => (h2 b z).elim (fun z => .inl (by rw [eA]; exact List.mem_cons_of_mem _ z)) .inr
  have sm := chg_sm (B := B) (A := a :: A') (H := H) (G := G) (o' := .ins (He.ga X.K C) dx (putF x v fs)) haO hA
  refine ⟨a, dx, fs, updO O i (a :: A'), e1, hx, rf.len, R.wr hB er haO hA fun v' ev => ?_, sm, fun b g => upd_ne fun z => R.dG i a haO (.inr (z ▸ g))⟩
  rw [e1] at ev
  cases ev
  rw [hs]
  exact .obj upd_same (h1.mono sm fun b hb o ho => by rw [upd_ne fun z => naA (by rw [← z]; exact hb)]; exact ho) naA
theorem fset_read {E : Ends} {H0 : Hp} {O0 : Own} {B : List Addr} {v : V} {d : D} (R : Rel X.w X.K ms σ H r O (GA B G)) (hB : ∀ b ∈ B, ¬ G b) (hs : (ms i).sh = .obj C T) (hT : T.lookup x = some fk) (hv : RepF X.w X.K (msk H (Ow O (GA B G))) H fk v d B) (E0 : Ext H0 O0 G H O (GA B G))
    (h : SOn X W ms rs E σ H0 O0 G (putFd i x d r)) : ∃ a dx fs, σ[i]? = some (some (.ref a)) ∧ H a = some (.ins (He.ga X.K C) dx fs) ∧ fs.length < 1000 ∧ E.nx σ (upd H a (.ins (He.ga X.K C) dx (putF x v fs))) := by
  unfold putFd at h
  split at h
  · rename_i ds er
    split at h
    · rename_i hl
      obtain ⟨a, dx, fs, O', e1, hx, el, R2, sm, gh⟩ := R.putFld hB hs hT (join_some er) hv
      exact ⟨a, dx, fs, e1, hx, by omega, h σ _ O' R2 ⟨E0.sm.trans sm, fun b g => ⟨g, (gh b g).trans (E0.gh b g).2⟩⟩ .refl⟩
    · exact False.elim h
  · exact False.elim h
theorem cs_fset (i : Nat) (he : CE X W ms e f) (fo : FOk X.K C x) (hs : (ms i).sh = .obj C T := by rfl) (hT : T.lookup x = some .pur := by rfl)
    (hN : X.N[i]? = some y := by rfl) (vis : Vis X.env.scope y := by first | exact Or.inl rfl | exact Or.inr (Or.inl rfl) | exact Or.inr (Or.inr rfl)) (hd : (y == ("__debug__" : Str)) = false := by decide) (hcd : (y == ("__classdict__" : Str)) = false := by decide)
    (hsw : swapsWith e (some (.Attribute (.Name y p1) x p2)) pos.line X.env = pure false := by rfl) : CS X W ms rs (.Assign [.Attribute (.Name y p1) x p2] e pos) (sFset i x f) :=
  (ps_fld (pe_var hN vis hd hcd) he hsw).weak fun E σ H ⟨r, O, G, R, h⟩ => tE_step R (toS_on h) fun d r1 v H1 O1 q R1 E1 rp => by
    obtain ⟨a, dx, fs, e1, hx, hl, q2⟩ := fset_read (B := []) (by rw [ga_nil]; exact R1) (fun _ z => nomatch z) hs hT (.pur (by rw [ga_nil]; exact rp)) (by rw [ga_nil]; exact E1) q
    exact ⟨_, e1, a, _, dx, fs, rfl, hx, fo.cl, fo.na, hl, q2⟩
theorem cs_fsetO (i : Nat) (he : CEo X W ms fk.sh e f) (fo : FOk X.K C x) (hs : (ms i).sh = .obj C T := by rfl) (hT : T.lookup x = some fk := by rfl)
    (hN : X.N[i]? = some y := by rfl) (vis : Vis X.env.scope y := by first | exact Or.inl rfl | exact Or.inr (Or.inl rfl) | exact Or.inr (Or.inr rfl)) (hd : (y == ("__debug__" : Str)) = false := by decide) (hcd : (y == ("__classdict__" : Str)) = false := by decide)
    (hsw : swapsWith e (some (.Attribute (.Name y p1) x p2)) pos.line X.env = pure false := by rfl) : CS X W ms rs (.Assign [.Attribute (.Name y p1) x p2] e pos) (sFset i x f) :=
  (ps_fld (pe_var hN vis hd hcd) he hsw).weak fun E σ H ⟨r, O, G, R, h⟩ => tEo_step R (toS_on h) fun d r1 v H1 O1 B q R1 E1 n rp => by
    obtain ⟨a, dx, fs, e1, hx, hl, q2⟩ := fset_read R1 n hs hT (.ofS rp) E1 q
    exact ⟨_, e1, a, _, dx, fs, rfl, hx, fo.cl, fo.na, hl, q2⟩
/-- o.f op= e -/
def sFaug (i : Nat) (x : Str) (sem : D → D → Option D) (f : Rho → R Opd) : Rho → SR := fun r => match Pth.get r (.f i x) with
  | some d0 => (f r).toS fun o r1 => match (o.get r1).bind fun z => sem d0 z with
    | some d => putFd i x d r1
    | none => .bad
  | none => .bad
theorem cs_faug (i : Nat) {fe : Rho → R Opd} {op : Operator} {ti : TIp} {sem : D → D → Option D} (he : CO X W ms e fe) (ho : PIp X op ti) (hse : SemI X ti sem) (fo : FOk X.K C x) (hs : (ms i).sh = .obj C T := by rfl) (hT : T.lookup x = some .pur := by rfl)
    (hN : X.N[i]? = some y := by rfl) (vis : Vis X.env.scope y := by first | exact Or.inl rfl | exact Or.inr (Or.inl rfl) | exact Or.inr (Or.inr rfl)) (hd : (y == ("__debug__" : Str)) = false := by decide) (hcd : (y == ("__classdict__" : Str)) = false := by decide) : CS X W ms rs (.AugAssign (.Attribute (.Name y p1) x p2) op e pos) (sFaug i x sem fe) :=
  (ps_fldaug (rd := ti) (pe_var hN vis hd hcd) he fun pins s σ H x y u v Q => ho pins s σ H x y u v Q).weak fun E σ H ⟨r, O, G, R, h⟩ => by
    unfold sFaug at h
    split at h
    · rename_i d0 e0
      obtain ⟨v0, B, hv, rr, _⟩ := R.at_ (p := .f i x) (sh := .pur) ⟨C, T, hs, fo⟩ e0 (by show (match (ms i).sh with | .obj _ T => (T.lookup x).map Fk.sh | _ => none) = _; rw [hs]; show (T.lookup x).map Fk.sh = _; rw [hT]; rfl)
      obtain ⟨a, C', dx, fs, h1, h2, h3, h4, h5⟩ := hv
      refine ⟨_, h1, a, _, dx, fs, v0, rfl, h2, h3, h4, h5, tO_step R (toS_on h) fun o r1 v1 H1 O1 q R1 E1 p1 => ?_⟩
      split at q
      · rename_i d eq
        obtain ⟨z, ez, e3⟩ := bind_some eq
        refine hse v0 v1 d0 z d H1 (Ow O1 G) _ (.purI ((rr.purI.2).mono E1.sm)) (p1.get R1 ez) R1.trO e3 fun v H' sm rp => ?_
        have R2 := R1.same sm
        obtain ⟨a', dx', fs', e1, hx, hl, q2⟩ := fset_read (B := []) (by rw [ga_nil]; exact R2) (fun _ z => nomatch z) hs hT (.pur (by rw [ga_nil]; exact rp)) (by rw [ga_nil]; exact E1.trans (.same sm R1.tr)) q
        rw [h1] at e1
        cases e1
        have : C' = He.ga X.K C := by
          have eg : ∃ d9, r[i]? = some (some d9) := by
            have e0 : (match (r[i]?).join with | some (.dict ds) => fldD ds x | _ => none) = some d0 := e0
            cases e9 : (r[i]?).join with
            | none => rw [e9] at e0; cases e0
            | some d9 => exact ⟨d9, join_some e9⟩
          obtain ⟨d9, e9⟩ := eg
          obtain ⟨u, eu, rs1⟩ := R.slot i _ e9
          rw [hs] at rs1
          obtain ⟨a9, dx9, fs9, ds9, B9, rfl, _, _, hx9, _, _⟩ := rs1.objI
          rw [h1] at eu
          cases eu
          rw [h2] at hx9
          cases hx9
          rfl
        subst this
        exact ⟨dx', fs', hx, hl, q2⟩
      · exact False.elim q
    · exact False.elim h
/-! a list or dict of one's own in a field: handed on, its instance let go -/
def eMvF (i : Nat) (x : Str) : Rho → R D := fun r => match Pth.get r (.f i x) with
  | some d => .ok d (r.set i none)
  | none => .bad
theorem ce_mvF (i : Nat) (x : Str) (fo : FOk X.K C x) (hs : (ms i).sh = .obj C T := by rfl) (hT : T.lookup x = some fk := by rfl) (hk : fk = .pur ∨ fk = .lst := by first | exact .inl rfl | exact .inr rfl)
    (hN : X.N[i]? = some y := by rfl) (vis : Vis X.env.scope y := by first | exact Or.inl rfl | exact Or.inr (Or.inl rfl) | exact Or.inr (Or.inr rfl)) (hd : (y == ("__debug__" : Str)) = false := by decide) (hcd : (y == ("__classdict__" : Str)) = false := by decide)
    (hb : attributeBase (.Name y p1) x X.env (eval (.Name y p1) X.env) = eval (.Name y p1) X.env := by rfl) : CE X W ms (.Attribute (.Name y p1) x pos) (eMvF i x) :=
  (pt_f i x hN vis hd hcd hb).weak fun σ H Q ⟨r, O, G, R, h⟩ => by
    unfold eMvF at h
    split at h
    · rename_i d0 e0
      obtain ⟨v0, B, hv, rr, hB⟩ := R.at_ (p := .f i x) (sh := fk.sh) ⟨C, T, hs, fo⟩ e0 (by show (match (ms i).sh with | .obj _ T => (T.lookup x).map Fk.sh | _ => none) = _; rw [hs]; show (T.lookup x).map Fk.sh = _; rw [hT]; rfl)
      refine ⟨v0, hv, h v0 H _ (R.drop i) ⟨msk_less fun a z => ?_, fun a g => ⟨g, rfl⟩⟩ ?_⟩
      · rcases z with g | ⟨j, hj⟩
        · exact .inl g
        · by_cases q : j = i
          · subst q; rw [updO_same] at hj; cases hj
          · rw [updO_ne q] at hj; exact .inr ⟨j, hj⟩
      · have sm : Same (msk H (Ow O G)) (msk H (Ow (updO O i []) G)) := msk_less fun a z => by
          rcases z with g | ⟨j, hj⟩
          · exact .inl g
          · by_cases q : j = i
            · subst q; rw [updO_same] at hj; cases hj
            · rw [updO_ne q] at hj; exact .inr ⟨j, hj⟩
        rcases hk with rfl | rfl
        · exact rr.purI.2.mono sm
        · obtain ⟨a, vs, ds, rfl, rfl, eB, ha, ra⟩ := rr.lstI
          have hai : a ∈ O i := hB a (by rw [eB]; exact List.mem_cons_self)
          refine .lst (.inl (msk_mk ?_ ha)) (RepAll.mono sm ra)
          rintro (g | ⟨j, hj⟩)
          · exact R.dG i a hai g
          · by_cases q : j = i
            · subst q; rw [updO_same] at hj; cases hj
            · rw [updO_ne q] at hj; exact q (R.dj j i a hj hai)
    · exact False.elim h
end
end DL
end

section
set_option maxHeartbeats 1000000
namespace DL
open PySem PySem.Spec PyProof.Rows L2
/-! ## a list of one's own at a place is changed; the arguments only read -/
def ePMut (p : Pth) (sem : List D → List D → Option (List D × D)) (fs : Rho → Option (List D)) : Rho → R D := fun r => match p.get r, fs r with
  | some (.list cs), some ds => match sem cs ds with
    | some (es, d) => .ok d (p.set r (.list es))
    | none => .bad
  | _, _ => .bad
section
variable {X : Cx} {W : WX} {ms : Ms} {rs : Shp} {σ : L2.St} {H : Hp} {r : Rho} {O : Own} {G : Gh} {C y : Str} {T : List (Str × Fk)} {pos apos : Pos} {a e : Expr} {es : List Expr} {p : Pth} {fs : Rho → Option (List D)} {rm : V → List V → Hp → VK → Prop} {semX : List D → List D → Option (List D × D)} {name : Str} {id : String}
theorem pmut_read {Q : VK} (ok : POk X.K ms p) (hsh : shAt ms p = some .lst) (hs : SemX X rm semX) (h : tE X W ms (ePMut p semX fs) σ H Q) : tPt X p σ H fun v H1 => tyV X.K "list" v H1 ∧ tROs X ms fs σ H1 fun xs H2 => rm v xs H2 Q := by
  obtain ⟨r, O, G, R, h⟩ := h
  unfold ePMut at h
  split at h
  · rename_i cs ds e0 e1
    split at h
    · rename_i es d e2
      obtain ⟨v, B, hv, rr, hB⟩ := R.at_ ok e0 hsh
      obtain ⟨l, vs, ds', rfl, ed, eB, hl, ra⟩ := rr.lstI
      cases ed
      refine ⟨_, hv, .inl ⟨rfl, vs, .inl (.inl hl)⟩, r, O, G, R, ds, e1, fun xs H2 s2 rx => ?_⟩
      have R2 := R.same s2
      have ra2 := RepAll.mono (msk_same (W := Ow O G) s2) ra
      refine hs l vs cs xs ds es d H2 (Ow O G) Q (s2 _ _ hl) (.inr ⟨p.slot, hB l (by rw [eB]; exact List.mem_cons_self)⟩) ra2 rx e2 fun v ws rw' rd => ?_
      obtain ⟨O', R', E'⟩ := R2.chgP (d' := .list es) (o' := .lst ws) (fun C T z => by cases z) ok e0 hsh (hv.same s2) ⟨_, .lst (s2 _ _ hl) ra2⟩ fun M' sm => .lst upd_same (RepAll.mono sm rw')
      exact h v _ O' R' ((Ext.same s2 R.tr).trans E') (rd.mono E'.sm)
    · exact False.elim h
  · exact False.elim h
theorem ce_pmut (hp : PtE X a p) (ok : POk X.K ms p) (slot : Slot "list" name id) (hty : typeOf (.builtin id) = pure (.type "method_descriptor")) (hm : MtR X id rm) (hs : SemX X rm semX) (ha : ROs X ms (e :: es) fs) (hsh : shAt ms p = some .lst := by rfl)
    (hbase : attributeBase a name X.env (eval a X.env) = eval a X.env := by rfl)
    (hfew : ((backTo pos (starEach (e :: es) X.env)).all (fun x => !x.1) && (backToKw pos (keywordEach [] X.env)).all (fun x => x.1.isSome)
      && decide ((e :: es).length + ([] : List Keyword).length + (if ([] : List Keyword).isEmpty then 0 else 1) < 30)) = true := by rfl)
    (hline : (apos.endLine == pos.line) = true := by rfl) (hss : starEach (e :: es) X.env = (false, eval e X.env) :: starEach es X.env := by rfl) (hplain : (backTo pos (starEach es X.env)).any (·.1) = false := by rfl) :
    CE X W ms (.Call (.Attribute a name apos) (e :: es) [] pos) (ePMut p semX fs) :=
  (pe_bm PySem.F.plainAttrs_list slot hty hm hp ha hbase hfew hline hss hplain).weak fun σ H Q h => pmut_read ok hsh hs h
end
/-! ## lists in fields are let go for good: from now on values that nobody changes -/
def frzT (ns : List Str) (T : List (Str × Fk)) : List (Str × Fk) := T.map fun p => if ns.contains p.1 = true then (p.1, .pur) else p
theorem frzT_in {ns : List Str} {n : Str} (h : ns.contains n = true) : ∀ T : List (Str × Fk), (frzT ns T).lookup n = (T.lookup n).map fun _ => .pur
  | [] => rfl
  | (m, k) :: T => by
    have ih := frzT_in h T
    show (((if ns.contains m = true then (m, .pur) else (m, k)) :: frzT ns T) : List (Str × Fk)).lookup n = _
    by_cases q : n = m
    · subst q
      rw [if_pos h]
      simp [List.lookup]
    · have hb : (n == m) = false := by simpa using q
      have : ((if ns.contains m = true then (m, Fk.pur) else (m, k))).1 = m := by split <;> rfl
      rw [List.lookup, this, hb, ih]
      simp [List.lookup, hb]
theorem frzT_out {ns : List Str} {n : Str} (h : ns.contains n = false) : ∀ T : List (Str × Fk), (frzT ns T).lookup n = T.lookup n
  | [] => rfl
  | (m, k) :: T => by
    have ih := frzT_out h T
    show (((if ns.contains m = true then (m, .pur) else (m, k)) :: frzT ns T) : List (Str × Fk)).lookup n = _
    by_cases q : n = m
    · subst q
      rw [if_neg (by rw [h]; decide)]
      simp [List.lookup]
    · have hb : (n == m) = false := by simpa using q
      have : ((if ns.contains m = true then (m, Fk.pur) else (m, k))).1 = m := by split <;> rfl
      rw [List.lookup, this, hb, ih]
      simp [List.lookup, hb]
def okFrz (ns : List Str) (T : List (Str × Fk)) : Bool := ns.all fun n => decide (T.lookup n = some .lst)
section
variable {w : World} {K : PySem.W.Frag} {M H : Hp} {ns : List Str} {T : List (Str × Fk)}
theorem okFrz_at {n : Str} (h : okFrz ns T = true) (hn : ns.contains n = true) : T.lookup n = some .lst := by
  have := List.all_eq_true.mp h n (by simpa using hn)
  exact of_decide_eq_true this
theorem RepFs.frz (ok : okFrz ns T = true) : ∀ {fs : List (Str × V)} {ds : List (D × D)} {A : List Addr}, RepFs w K M H T fs ds A → ∃ A', (∀ a ∈ A', a ∈ A) ∧ ∀ M', Same M M' → (∀ b ∈ A, b ∉ A' → ∀ o, H b = some o → M' b = some o) → RepFs w K M' H (frzT ns T) fs ds A'
  | _, _, _, .nil => ⟨[], (fun _ h => h), fun _ _ _ => RepFs.nil⟩
  | _, _, _, .cons (f := f) (k := k) (A := A) (B := B) l h t nd => by
    obtain ⟨B', h1, h2⟩ := RepFs.frz ok t
    cases q : ns.contains f with
    | true =>
      have e := okFrz_at ok q
      rw [l] at e
      cases e
      cases h with
      | lst ha ra =>
        rename_i a vs ds
        refine ⟨[] ++ B', fun b hb => List.mem_append_right _ (h1 b (by simpa using hb)), fun M' sm hf => .cons (k := .pur) (by rw [frzT_in q, l]; rfl) ?_ (h2 M' sm fun b hb nb o z => hf b (List.mem_append_right _ hb) (by simpa using nb) o z) (fun _ z => nomatch z)⟩
        have haB : a ∉ B := nd a List.mem_cons_self
        exact .pur (.lst (.inl (hf a (List.mem_append_left _ List.mem_cons_self) (fun z => haB (h1 a (by simpa using z))) _ ha)) (RepAll.mono sm ra))
    | false =>
      refine ⟨A ++ B', fun b hb => (List.mem_append.mp hb).elim (List.mem_append_left _) fun z => List.mem_append_right _ (h1 b z), fun M' sm hf => .cons (by rw [frzT_out q, l]) (h.mono sm fun _ _ _ z => z) (h2 M' sm fun b hb nb o z => hf b (List.mem_append_right _ hb) (fun z2 => (List.mem_append.mp z2).elim (fun z3 => nd b z3 hb) nb) o z) fun a ha z => nd a ha (h1 a z)⟩
theorem RepFs.thw : ∀ {fs : List (Str × V)} {ds : List (D × D)} {A : List Addr}, RepFs w K M H (frzT ns T) fs ds A → (∀ n ∈ ns, fldD ds n = none) → RepFs w K M H T fs ds A
  | _, _, _, .nil, _ => .nil
  | _, _, _, .cons (f := f) (d := d) (ds := ds) l h t nd, hn => by
    have q : ns.contains f = false := by
      cases q : ns.contains f with
      | false => rfl
      | true =>
        have : fldD ((.str f, d) :: ds) f = none := hn f (by simpa using q)
        have : (if f = f then some d else fldD ds f) = none := this
        rw [if_pos rfl] at this
        cases this
    refine .cons (by rw [frzT_out q] at l; exact l) h (RepFs.thw t fun n hn' => ?_) nd
    have e : (if f = n then some d else fldD ds n) = none := hn n hn'
    split at e
    · cases e
    · exact e
variable {ms ms' : Ms} {σ : L2.St} {r : Rho} {O : Own} {G : Gh} {C : Str} {i : Nat}
theorem Rel.frzO (h : Rel w K ms σ H r O G) (hs : (ms i).sh = .obj C T) (hs' : (ms' i).sh = .obj C (frzT ns T)) (ho : ∀ j, j ≠ i → (ms' j).sh = (ms j).sh) (ok : okFrz ns T = true) : ∃ O', Rel w K ms' σ H r O' G ∧ Ext H O G H O' G ∧ ∀ a, Ow O' G a → Ow O G a := by
  by_cases q : ∃ d, r[i]? = some (some d)
  · obtain ⟨d, er⟩ := q
    obtain ⟨v, e1, rs⟩ := h.slot i d er
    rw [hs] at rs
    obtain ⟨x, dx, fs, ds, B, rfl, rfl, eA, hx, rf, nx⟩ := rs.objI
    obtain ⟨B', h1, h2⟩ := rf.frz ok
    have sub : ∀ a, Ow (updO O i (x :: B')) G a → Ow O G a := fun a z => by
      rcases z with g | ⟨j, hj⟩
      · exact .inl g
      · by_cases q : j = i
        · subst q
          rw [updO_same] at hj
          refine .inr ⟨j, ?_⟩
          rw [eA]
          exact (List.mem_cons.mp hj).elim (fun z => z ▸ List.mem_cons_self) fun z => List.mem_cons_of_mem _ (h1 a z)
        · rw [updO_ne q] at hj; exact .inr ⟨j, hj⟩
    have sm : Same (msk H (Ow O G)) (msk H (Ow (updO O i (x :: B')) G)) := msk_less sub
    have inO : ∀ {a : Addr} {j : Nat}, a ∈ updO O i (x :: B') j → a ∈ O j := fun {a j} hj => by
      by_cases q : j = i
      · subst q
        rw [updO_same] at hj
        rw [eA]
        exact (List.mem_cons.mp hj).elim (fun z => z ▸ List.mem_cons_self) fun z => List.mem_cons_of_mem _ (h1 a z)
      · rw [updO_ne q] at hj; exact hj
    refine ⟨updO O i (x :: B'), ⟨h.len, fun j d e => ?_, fun j hj => ?_, h.tr, fun j k a hj hk => h.dj j k a (inO hj) (inO hk), fun j a hj => h.dG j a (inO hj)⟩, ⟨sm, fun a g => ⟨g, rfl⟩⟩, sub⟩
    · by_cases q : j = i
      · subst q
        rw [er] at e
        cases e
        refine ⟨_, e1, ?_⟩
        rw [hs', updO_same]
        refine .obj hx (h2 _ sm fun b hb nb o z => msk_mk ?_ z) fun z => nx (h1 x z)
        rintro (g | ⟨k, hk⟩)
        · exact h.dG j b (by rw [eA]; exact List.mem_cons_of_mem _ hb) g
        · by_cases q : k = j
          · subst q
            rw [updO_same] at hk
            exact (List.mem_cons.mp hk).elim (fun z => nx (z ▸ hb)) nb
          · rw [updO_ne q] at hk
            exact q (h.dj k j b hk (by rw [eA]; exact List.mem_cons_of_mem _ hb))
      · obtain ⟨v, e2, rs2⟩ := h.slot j d e
        refine ⟨v, e2, ?_⟩
        rw [ho j q, updO_ne q]
        exact rs2.mono sm fun _ _ _ z => z
    · by_cases q : j = i
      · subst q; exact absurd er (hj _)
      · rw [updO_ne q]; exact h.emp j hj
  · refine ⟨O, ⟨h.len, fun j d e => ?_, h.emp, h.tr, h.dj, h.dG⟩, .refl, fun _ z => z⟩
    have ne : j ≠ i := fun z => q ⟨d, z ▸ e⟩
    rw [ho j ne]
    exact h.slot j d e
theorem Rel.thwO {ds : List (D × D)} (h : Rel w K ms' σ H r O G) (hs : (ms i).sh = .obj C T) (hs' : (ms' i).sh = .obj C (frzT ns T)) (ho : ∀ j, j ≠ i → (ms' j).sh = (ms j).sh) (er : r[i]? = some (some (.dict ds))) (hn : ∀ n ∈ ns, fldD ds n = none) : Rel w K ms σ H r O G := by
  refine ⟨h.len, fun j d e => ?_, h.emp, h.tr, h.dj, h.dG⟩
  by_cases q : j = i
  · subst q
    rw [er] at e
    cases e
    obtain ⟨v, e1, rs⟩ := h.slot j _ er
    refine ⟨v, e1, ?_⟩
    rw [hs'] at rs
    rw [hs]
    obtain ⟨x, dx, fs, ds', B, rfl, ed, eA, hx, rf, nx⟩ := rs.objI
    cases ed
    rw [eA]
    exact .obj hx (rf.thw hn) nx
  · rw [← ho j q]
    exact h.slot j d e
end
def sGrow (i : Nat) (ns : List Str) (g : Rho → SR) : Rho → SR := fun r => match (r[i]?).join with
  | some (.dict ds) => if (ns.all fun n => (fldD ds n).isNone) = true then g r else .bad
  | _ => .bad
def tS2 (X : Cx) (W : WX) (ms ms' : Ms) (rs : Shp) (g : Rho → SR) : TS := fun E σ H => ∃ r O G, Rel X.w X.K ms σ H r O G ∧ SOn X W ms' rs E σ H O G (g r)
/-- a block that begins with the lists in fields one's own and ends with them let go -/
abbrev CSg (X : Cx) (W : WX) (ms ms' : Ms) (rs : Shp) (sts : List Stmt) (g : Rho → SR) : Prop := PSs X sts (tS2 X W ms ms' rs g)
section
variable {X : Cx} {W : WX} {ms ms' : Ms} {rs : Shp} {σ : L2.St} {H : Hp} {r : Rho} {O : Own} {G : Gh} {C : Str} {T : List (Str × Fk)} {ns : List Str} {i : Nat} {E : Ends} {st : Stmt} {ss : List Stmt} {g k : Rho → SR}
structure Frz (ms ms' : Ms) (i : Nat) (C : Str) (T : List (Str × Fk)) (ns : List Str) : Prop where
  hs : (ms i).sh = .obj C T
  hs' : (ms' i).sh = .obj C (frzT ns T)
  ho : ∀ j, j ≠ i → (ms' j).sh = (ms j).sh
  hf : ∀ j, (ms' j).fx = (ms j).fx
  ok : okFrz ns T = true
def msO (ms : Ms) (i : Nat) (C : Str) (T : List (Str × Fk)) : Ms := fun j => if j = i then { sh := .obj C T, fx := (ms i).fx } else ms j
theorem frz_of (hs' : (ms i).sh = .obj C (frzT ns T)) (ok : okFrz ns T = true := by decide) : Frz (msO ms i C T) ms i C T ns :=
  ⟨by unfold msO; rw [if_pos rfl], hs', fun j hj => by unfold msO; rw [if_neg hj], fun j => by unfold msO; split <;> first | (rename_i z; rw [z]) | rfl, ok⟩
theorem Fx.eq {σ σ' : L2.St} (e : ∀ j, (ms' j).fx = (ms j).fx) (f : Fx ms σ σ') : Fx ms' σ σ' := ⟨f.len, fun i hi => f.at_ i (by rw [← e i]; exact hi)⟩
theorem SOn.grow (z : Frz ms ms' i C T ns) {s : SR} (h : SOn X W ms' rs E σ H O G s) : SOn X W ms rs E σ H O G s := by
  cases s with
  | nx r' => intro σ' H' O' R e f; obtain ⟨O2, R2, E2, _⟩ := R.frzO z.hs z.hs' z.ho z.ok; exact h σ' H' O2 R2 (e.trans E2) (f.eq z.hf)
  | bk r' => intro σ' H' O' R e f; obtain ⟨O2, R2, E2, _⟩ := R.frzO z.hs z.hs' z.ho z.ok; exact h σ' H' O2 R2 (e.trans E2) (f.eq z.hf)
  | ct r' => intro σ' H' O' R e f; obtain ⟨O2, R2, E2, _⟩ := R.frzO z.hs z.hs' z.ho z.ok; exact h σ' H' O2 R2 (e.trans E2) (f.eq z.hf)
  | rt d r' => intro v σ' H' O' A R e n f q; obtain ⟨O2, R2, E2, sub⟩ := R.frzO z.hs z.hs' z.ho z.ok; exact h v σ' H' O2 A R2 (e.trans E2) n (f.eq z.hf) (q.mono (msk_less sub) fun _ _ _ z => z)
  | exc c x r' => intro cv dx σ' H' O' R e f q; obtain ⟨O2, R2, E2, _⟩ := R.frzO z.hs z.hs' z.ho z.ok; exact h cv dx σ' H' O2 R2 (e.trans E2) (f.eq z.hf) q
  | bad => exact h
theorem csg_end (z : Frz ms ms' i C T ns) (h : CSs X W ms' rs ss g) : CSg X W ms ms' rs ss g :=
  h.weak fun E σ H ⟨r, O, G, R, h⟩ => by
    obtain ⟨O2, R2, E2, _⟩ := R.frzO z.hs z.hs' z.ho z.ok
    exact ⟨r, O2, G, R2, h.mono E2 .refl⟩
theorem csg_one (z : Frz ms ms' i C T ns) (h : CS X W ms rs st g) : CSg X W ms ms' rs [st] g :=
  (pss_one h).weak fun E σ H ⟨r, O, G, R, h⟩ => ⟨r, O, G, R, h.grow z⟩
theorem csg_cons (z : Frz ms ms' i C T ns) (h1 : CS X W ms rs st g) (h2 : CSg X W ms ms' rs ss k) : CSg X W ms ms' rs (st :: ss) (sSeq g k) :=
  (pss_cons h1 h2).weak fun E σ H ⟨r, O, G, R, h⟩ => by
    refine ⟨r, O, G, R, ?_⟩
    unfold sSeq at h
    cases e : g r with
    | nx r' => rw [e] at h; exact fun σ' H' O' R' e' f' => ⟨r', O', G, R', SOn.mono e' (f'.eq z.hf) h⟩
    | rt d r' => rw [e] at h; exact SOn.grow z (s := .rt d r') h
    | bk r' => rw [e] at h; exact SOn.grow z (s := .bk r') h
    | ct r' => rw [e] at h; exact SOn.grow z (s := .ct r') h
    | exc c x r' => rw [e] at h; exact SOn.grow z (s := .exc c x r') h
    | bad => rw [e] at h; exact h
theorem csg_grow (z : Frz ms ms' i C T ns) (h : CSg X W ms ms' rs ss g) : CSs X W ms' rs ss (sGrow i ns g) :=
  h.weak fun E σ H ⟨r, O, G, R, h⟩ => by
    unfold sGrow at h
    split at h
    · rename_i ds er
      split at h
      · rename_i hn
        exact ⟨r, O, G, R.thwO z.hs z.hs' z.ho (join_some er) fun n hn' => by simpa using List.all_eq_true.mp hn n hn', h⟩
      · exact False.elim h
    · exact False.elim h
end
end DL
end

section
namespace DL
open PySem PySem.Spec PyProof.Rows L2 TL
/-! evaluation of methods, instances and fields, for simp -/
variable (r : Rho) (n i : Nat) (p : Pth) (f : Rho → R D) (o : Rho → R Opd) (fs : Rho → Option (List D)) (as : Rho → R (List Opd)) (al : List Arg) (x : Str) (d : D) (F : FS) (s : Rho → SR) (ns : List Str)
@[simp] theorem gX_nil : getsX r [] = some [] := Eq.trans rfl rfl
@[simp] theorem gX_cons (o : Opd) (os : List Opd) : getsX r (o :: os) = (o.getX r).bind fun d => (getsX r os).bind fun ds => some (d :: ds) := Eq.trans rfl rfl
@[simp] theorem gX_val : Opd.getX r (.val d) = some d := Eq.trans rfl rfl
@[simp] theorem gX_slot : Opd.getX r (.slot i) = (r[i]?).join := Eq.trans rfl rfl
@[simp] theorem v_eFnX : eFnX F al r = (argsR al r).bind fun os r1 => match getsX r1 os with
  | some ds => match F ds with
    | .ok d ro => .ok d (putA al ro r1)
    | .exc c x ro => .exc c x (putA al ro r1)
    | .bad => .bad
  | none => .bad := Eq.trans rfl rfl
@[simp] theorem v_eMe : eMe F i al r = match (r[i]?).join with
  | some (.dict _) => eFnX F (.s i :: al) r
  | _ => .bad := Eq.trans rfl rfl
@[simp] theorem v_eMeT : eMeT n f F as r = (f r).bind fun d r1 => match d with
  | .dict _ => (as r1).bind fun os r2 => match vals os with
    | some ds => if (d :: ds).length = n then match F (d :: ds) with
      | .ok v _ => .ok v r2
      | .exc c x _ => .exc c x r2
      | .bad => .bad else .bad
    | none => .bad
  | _ => .bad := Eq.trans rfl rfl
@[simp] theorem v_eNew : eNew n F as r = (as r).bind fun os r1 => match vals os with
  | some ds => if (PyData.dict [] :: ds).length = n then match F (.dict [] :: ds) with
    | .ok .none (some d :: _) => .ok d r1
    | .exc c x _ => .exc c x r1
    | _ => .bad else .bad
  | none => .bad := Eq.trans rfl rfl
@[simp] theorem v_eAtT : eAtT f x r = (f r).bind fun d r1 => match d with
  | .dict ds => .ofO (fldD ds x) r1
  | _ => .bad := Eq.trans rfl rfl
@[simp] theorem v_putFd : putFd i x d r = match (r[i]?).join with
  | some (.dict ds) => if ds.length < 1000 then .nx (r.set i (some (.dict (setFD ds x d)))) else .bad
  | _ => .bad := Eq.trans rfl rfl
@[simp] theorem v_sFset : sFset i x f r = (f r).toS fun d r1 => putFd i x d r1 := Eq.trans rfl rfl
@[simp] theorem v_sFaug (sem : D → D → Option D) : sFaug i x sem o r = match Pth.get r (.f i x) with
  | some d0 => (o r).toS fun o r1 => match (o.get r1).bind fun z => sem d0 z with
    | some d => putFd i x d r1
    | none => .bad
  | none => .bad := Eq.trans rfl rfl
@[simp] theorem v_eMvF : eMvF i x r = match Pth.get r (.f i x) with
  | some d => .ok d (r.set i none)
  | none => .bad := Eq.trans rfl rfl
@[simp] theorem v_ePMut (sem : List D → List D → Option (List D × D)) : ePMut p sem fs r = match p.get r, fs r with
  | some (.list cs), some ds => match sem cs ds with
    | some (es, d) => .ok d (p.set r (.list es))
    | none => .bad
  | _, _ => .bad := Eq.trans rfl rfl
@[simp] theorem v_sGrow : sGrow i ns s r = match (r[i]?).join with
  | some (.dict ds) => if (ns.all fun n => (fldD ds n).isNone) = true then s r else .bad
  | _ => .bad := Eq.trans rfl rfl
end DL
end

section
set_option maxHeartbeats 1000000
namespace DL
open PySem PySem.Spec PyProof.Rows L2
/-! ## isinstance of lists and tuples, too -/
def tyN2 : D → Option String
  | .none => some "NoneType"
  | .bool _ => some "bool"
  | .int _ => some "int"
  | .str _ => some "str"
  | .list _ => some "list"
  | .tuple _ => some "tuple"
  | _ => none
def instT2 (T : String) (d : D) : Option Bool := (tyN2 d).bind fun a => L2.kitB a T
def eInst2 (T : String) (f : Rho → R Opd) : Rho → R D := fun r => (f r).bind fun o r1 => .ofO (((o.get r1).bind (instT2 T)).map .bool) r1
section
variable {X : Cx} {W : WX} {ms : Ms}
theorem ce_inst2 {e : Expr} {f : Rho → R Opd} {T : String} {y : Str} {p p2 pos : Pos} (he : CO X W ms e f) (hb : X.mg "isinstance" = none) (hY : X.mg y = none) (hT : bootBuiltins y = some (.type T)) (hg : Gl X "isinstance" := by rfl) (hgy : Gl X y := by rfl) (hny : y ≠ "__name__" := by decide) (hdy : (y == ("__debug__" : Str)) = false := by decide)
    (hse : starEach [e, .Name y p2] X.env = (false, eval e X.env) :: starEach [.Name y p2] X.env := by rfl) (hpl : (backTo pos (starEach [.Name y p2] X.env)).any (·.1) = false := by rfl)
    (hs0 : ∀ q, starEach [e, .Name y p2] q = (false, eval e q) :: starEach [.Name y p2] q := by exact fun _ => rfl) :
    CE X W ms (.Call (.Name "isinstance" p) [e, .Name y p2] [] pos) (eInst2 T f) := by
  have hA : PA X [e, .Name y p2] (tCons (tO X W ms f) (tCons (tC (.ty T)) tNil)) := pa_cons he (pa_cons (pe_bltn hgy hY hT rfl hny hdy) pa_nil) hse
  refine (pe_callB call_isi hg hb (by rfl) hA (by decide) (by decide) hse hpl).weak fun σ H Q ⟨r, O, G, R, h⟩ => ?_
  unfold eInst2 at h
  rw [on_bind] at h
  refine tO_step R h fun o r1 v H1 O1 h1 R1 E1 p1 => ?_
  obtain ⟨d, e, h1⟩ := on_ofO h1
  obtain ⟨b, e0, rfl⟩ := Option.map_eq_some_iff.mp e
  obtain ⟨x, ex, e2⟩ := bind_some e0
  have ra := p1.get R1 ex
  have q := h1 (.bl b) H1 O1 R1 E1 (.bl b)
  unfold instT2 at e2
  obtain ⟨a, ea, e3⟩ := bind_some e2
  refine ⟨v, .ty T, .type a, .type T, b, rfl, .ty T, ?_, kit_ty e3, q⟩
  cases x <;> first | (cases ea; done) | skip
  · cases ea; rw [ra.nonI]; exact .base .non
  · cases ea; rw [ra.blI]; exact .base (.bl _)
  · cases ea; rw [ra.intI]; exact .base (.int _)
  · cases ea; rw [ra.strI]; exact .base (.str _)
  · cases ea
    obtain ⟨a, xs, rfl, h, _⟩ := ra.lstI
    rcases h with h | ⟨o, h⟩
    · exact .base (.lst h)
    · exact .base (.frz h)
  · cases ea
    obtain ⟨a, xs, rfl, h, _⟩ := ra.tupI
    rcases h with (h | ⟨o, h⟩) | ⟨o, its, n, hk, hc, _⟩
    · exact .base (.tup h)
    · exact .fTuple h
    · exact .kTuple hk hc
end
@[simp] theorem v_inst2 (T : String) (o : Rho → R Opd) (r : Rho) : eInst2 T o r = (o r).bind fun o r1 => .ofO (((o.get r1).bind (instT2 T)).map .bool) r1 := Eq.trans rfl rfl
theorem inst2_ll (l : List D) : instT2 "list" (.list l) = some true := by rfl
theorem inst2_tt (l : List D) : instT2 "tuple" (.tuple l) = some true := by rfl
end DL
end

section
set_option maxHeartbeats 1000000
namespace DL
open PySem PySem.Spec PyProof.Rows L2
/-! ## < of tuples -/
def dLt2 : D → D → Option D
  | .tuple xs, .tuple ys => if (PySem.W.alike (.tuple xs) (.tuple ys) && decide ((PyData.tuple xs).depth ≤ 60)) = true then some (.bool (PySem.W.dataLt (.tuple xs) (.tuple ys))) else none
  | x, y => dLt x y
def rLtD (K : PySem.W.Frag) : R2 := fun x y H Q => ∃ d e, Dp K H x d ∧ Dp K H y e ∧ PySem.W.alike d e = true ∧ d ≠ .none ∧ d.depth ≤ 60 ∧ Q (.bl (PySem.W.dataLt d e)) H
section
variable {X : Cx}
theorem op_ltD (hu : X.A.units + 64 < cLine) : OpR X (compareOp .Lt) (rLtD X.K) := by
  intro pins s σ H x y v u Q I rx ry h
  obtain ⟨d, e, hd, he, sd, sn, dp, q⟩ := h
  obtain ⟨as, r1⟩ := Dp.reads I d x v hd rx
  obtain ⟨bs, r2⟩ := Dp.reads I e y u he ry
  exact PySem.W.lt_data r1 r2 sd sn (by omega) ⟨.bl _, H, I, rfl, q⟩
theorem or_lt2 (hu : X.A.units + 64 < cLine) : OpR X (compareOp .Lt) (fun x y H Q => rOrd (fun i j => decide (i < j)) (fun a b => decide (a < b)) x y H Q ∨ rLtD X.K x y H Q) := or_lt.or (op_ltD hu)
theorem sr_lt2 : SemR X (fun x y H Q => rOrd (fun i j => decide (i < j)) (fun a b => decide (a < b)) x y H Q ∨ rLtD X.K x y H Q) dLt2 := fun x y a b d H W Q ra rb tr e q => by
  have gen : dLt a b = some d → rOrd (fun i j => decide (i < j)) (fun a b => decide (a < b)) x y H Q ∨ rLtD X.K x y H Q := fun e => .inl (sr_lt x y a b d H W Q ra rb tr e q)
  by_cases h : ∃ as bs, a = .tuple as ∧ b = .tuple bs
  · obtain ⟨as, bs, rfl, rfl⟩ := h
    obtain ⟨hz, rfl⟩ := ite_some e
    obtain ⟨h1, h2⟩ := Bool.and_eq_true_iff.mp hz
    exact .inr ⟨_, _, ra.rep.dp, rb.rep.dp, h1, (fun z => nomatch z), of_decide_eq_true h2, q (.bl _) H (Same.refl _) (.bl _)⟩
  · refine gen ?_
    cases a <;> cases b <;> first | exact e | exact absurd ⟨_, _, rfl, rfl⟩ h
end
/-- words in order: (len, text) pairs -/
theorem dLt_words (a b : List Nat) : PySem.W.dataLt (.tuple [.int (a.length : Int), .str ⟨a.toArray⟩]) (.tuple [.int (b.length : Int), .str ⟨b.toArray⟩]) = decide (a.length < b.length ∨ (a.length = b.length ∧ a < b)) := by
  rw [PySem.W.dataLt_pair (by simp [PySem.W.alike]) (by simp [PySem.W.alike]), PySem.W.dataLt_int, PySem.W.dataLt_str]
  simp only [PyData.eqv, beq_iff_eq]
  by_cases h1 : a.length = b.length
  · rw [if_pos (by omega)]
    by_cases h2 : a = b
    · subst h2
      rw [if_pos rfl, decide_eq_false]
      rintro (z | z)
      · omega
      · exact List.lt_irrefl _ z.2
    · rw [if_neg (fun z => h2 (by
        have := congrArg (fun s : Str => s.cps.toList) z
        simpa using this))]
      rw [Bool.eq_iff_iff, decide_eq_true_eq, decide_eq_true_eq]
      exact ⟨fun z => .inr ⟨h1, z⟩, fun z => z.elim (fun z => absurd z (by omega)) fun z => z.2⟩
  · rw [if_neg (by omega), Bool.eq_iff_iff, decide_eq_true_eq, decide_eq_true_eq]
    exact ⟨fun z => .inl (by omega), fun z => z.elim (fun z => by omega) fun z => absurd z.1 h1⟩
theorem dLt2_words (a b : List Nat) : dLt2 (.tuple [.int (a.length : Int), .str ⟨a.toArray⟩]) (.tuple [.int (b.length : Int), .str ⟨b.toArray⟩]) = some (.bool (decide (a.length < b.length ∨ (a.length = b.length ∧ a < b)))) := by
  rw [← dLt_words]
  have h : PySem.W.alike (.tuple [.int (a.length : Int), .str ⟨a.toArray⟩]) (.tuple [.int (b.length : Int), .str ⟨b.toArray⟩]) = true := by simp [PySem.W.alike, PySem.W.alikeAll]
  have h2 : (PyData.tuple [.int (a.length : Int), .str ⟨a.toArray⟩]).depth = 1 := by simp [PyData.depth, PyData.depthAll]
  unfold dLt2
  simp only [h, h2]
  rfl
end DL
end

section
set_option maxHeartbeats 1000000
namespace DL
open PySem PySem.Spec PyProof.Rows L2
/-! ## d[f(x)] = v: a key that is worked out by calls -/
def putDk (n : Bool) (i : Nat) (kd d : D) (r : Rho) : SR := match (Pth.s i).get r with
  | some (.dict ds) => if (keyFit n kd && decide (ds.length < sizeLine)) = true then .nx ((Pth.s i).set r (.dict (putD ds kd d))) else .bad
  | _ => .bad
def sDputC (n : Bool) (i : Nat) (fv fk : Rho → R D) : Rho → SR := fun r => (fv r).toS fun d r1 => match (Pth.s i).get r1 with
  | some (.dict _) => (fk r1).toS fun kd r2 => putDk n i kd d r2
  | _ => .bad
section
variable {X : Cx} {W : WX} {ms : Ms} {rs : Shp} {e a b : Expr} {pos pos' : Pos}
theorem cs_dputC (n : Bool) (i : Nat) {fv fk : Rho → R D} (hu : X.A.units + 64 < cLine) (hv : CE X W ms e fv) (hp : PtE X a (.s i)) (ok : POk X.K ms (.s i)) (hk : CE X W ms b fk) (hs : shAt ms (.s i) = some (dkSh n) := by rfl) (hsw : swapsWith e (some (.Subscript a b pos')) pos.line X.env = pure false := by rfl) :
    CS X W ms rs (.Assign [.Subscript a b pos'] e pos) (sDputC n i fv fk) :=
  (ps_dputD (n := n) hu hp hk hv hsw).weak fun E σ H ⟨r, O, G, R, h⟩ => tE_step R (toS_on h) fun d r1 v H1 O1 q R1 E1 rv => by
    split at q
    · rename_i ds0 e1
      obtain ⟨x, ds', vp, ed, da⟩ := R1.dct ok e1 hs
      refine ⟨_, vp, tE_step R1 (toS_on (q.mono E1 .refl)) fun kd r2 y H2 O2 q2 R2 E2 rk => ?_⟩
      unfold putDk at q2
      split at q2
      · rename_i ds e2
        split at q2
        · rename_i hc
          rw [Bool.and_eq_true, decide_eq_true_eq] at hc
          obtain ⟨x2, ds2, vp2, ed2, da2⟩ := R2.dct ok e2 hs
          cases ed2
          have ex : x = x2 := Option.some.inj (Option.some.inj (vp.symm.trans vp2))
          subst ex
          obtain ⟨l, o, rfl, hl, g, sm⟩ := id da2
          refine ⟨_, ds, kd, d, l, rfl, da2, rk, hc.1, hc.2, rv.mono E2.sm, fun o' g' => ?_⟩
          obtain ⟨O3, R3, E3⟩ := R2.dctSet ok e2 hs vp2 da2 g'
          exact q2 σ _ O3 R3 (E2.trans E3) .refl
        · exact False.elim q2
      · exact False.elim q2
    · exact False.elim q
end
end DL
end

section
set_option maxHeartbeats 1000000
namespace DL
open PySem PySem.Spec PyProof.Rows L2
/-! ## x in a tuple -/
def dInT : D → D → Option D
  | d, .tuple ds => if (SeqAt.shaped d && SeqAt.shaped (.tuple ds)) = true then some (.bool (ds.any fun z => PyData.eqv z d)) else none
  | _, _ => none
def dNotInT : D → D → Option D
  | d, .tuple ds => if (SeqAt.shaped d && SeqAt.shaped (.tuple ds)) = true then some (.bool (!ds.any fun z => PyData.eqv z d)) else none
  | _, _ => none
def rInT (K : PySem.W.Frag) : R2 := fun x y H Q => ∃ d ds, Dp K H x d ∧ Dp K H y (.tuple ds) ∧ SeqAt.shaped d = true ∧ SeqAt.shaped (.tuple ds) = true ∧ Q (.bl (ds.any fun z => PyData.eqv z d)) H
def rNotInT (K : PySem.W.Frag) : R2 := fun x y H Q => ∃ d ds, Dp K H x d ∧ Dp K H y (.tuple ds) ∧ SeqAt.shaped d = true ∧ SeqAt.shaped (.tuple ds) = true ∧ Q (.bl (!ds.any fun z => PyData.eqv z d)) H
section
variable {X : Cx}
theorem op_inT (hu : X.A.units + 65 < cLine) : OpR X (compareOp .In) (rInT X.K) := by
  intro pins s σ H x y v u Q I rx ry h
  obtain ⟨d, ds, hd, he, sd, se, q⟩ := h
  obtain ⟨as, r1⟩ := Dp.reads I d x v hd rx
  obtain ⟨bs, r2⟩ := Dp.reads I (.tuple ds) y u he ry
  exact SeqAt.in_tuple_reads r2 r1 (SeqAt.canLay_of_shaped se) (SeqAt.canLay_of_shaped sd) (room_in_shaped sd hu) ⟨.bl _, H, I, rfl, q⟩
theorem op_notInT (hu : X.A.units + 65 < cLine) : OpR X (compareOp .NotIn) (rNotInT X.K) := by
  intro pins s σ H x y v u Q I rx ry h
  obtain ⟨d, ds, hd, he, sd, se, q⟩ := h
  obtain ⟨as, r1⟩ := Dp.reads I d x v hd rx
  obtain ⟨bs, r2⟩ := Dp.reads I (.tuple ds) y u he ry
  exact SeqAt.notIn_tuple_reads r2 r1 (SeqAt.canLay_of_shaped se) (SeqAt.canLay_of_shaped sd) (room_in_shaped sd hu) ⟨.bl _, H, I, rfl, q⟩
theorem sr_inT : SemR X (rInT X.K) dInT := fun x y a b d H W Q ra rb tr e q => by
  cases b <;> first | (cases e; done) | skip
  obtain ⟨hz, rfl⟩ := ite_some e
  obtain ⟨h1, h2⟩ := Bool.and_eq_true_iff.mp hz
  exact ⟨_, _, ra.rep.dp, rb.rep.dp, h1, h2, q _ H (Same.refl _) (.bl _)⟩
theorem sr_notInT : SemR X (rNotInT X.K) dNotInT := fun x y a b d H W Q ra rb tr e q => by
  cases b <;> first | (cases e; done) | skip
  obtain ⟨hz, rfl⟩ := ite_some e
  obtain ⟨h1, h2⟩ := Bool.and_eq_true_iff.mp hz
  exact ⟨_, _, ra.rep.dp, rb.rep.dp, h1, h2, q _ H (Same.refl _) (.bl _)⟩
end
theorem sh_none : SeqAt.shaped (.none : D) = true := by decide
end DL
end

section
set_option maxHeartbeats 1000000
namespace DL
open PySem PySem.Spec PyProof.Rows L2
/-! ## a def under another name (x = nm at the top) -/
def AtA (K : PySem.W.Frag) (mg : Str → Option Value) (x nm : Str) (st : Stmt) : Prop := mg x = some (.ref (He.ga K x)) ∧ ∃ fd, FunD K nm nm (defArgs st) (defBody st) (defScope st) [] [] (He.ga K x) fd
theorem ok_ofA {P : Program} {w : World} {K : PySem.W.Frag} {mg : Str → Option Value} {base : Heap} {k : Nat} {x nm : Str} {st : Stmt} {N ps : List Str} {pm ms : Ms} {rs : Shp} {n m : Nat} {g : Rho → SR} (a : AtA K mg x nm st) (S : FnScope N ps (defScope st))
    (hbind : ∀ (kV doc pm : Value) (an : Option Addr) (cdv ct : Value) (us : List Value), us.length = ps.length → bindArgs (PySem.W.fnOf nm nm (defArgs st) (defBody st) (defScope st) .none kV doc pm an cdv ct) ⟨us, []⟩ = pure (ps.zip us))
    (hn : ps.length = n) (hm : N.length - n = m) (hms : ∀ i, i < n → ms i = pm i) (hrn : rs = .pur ∨ ∀ (ds : List D) (r : Rho), g (ds.map some ++ List.replicate m none) ≠ .nx r)
    (hb : ∀ (cdv : Value) (A : Around) (outer : List Env) (s : Shared) (H : Hp) (E : XK), Room k (A.deeper (envOfC nm (defScope st) s.heap.objs.size (He.ga K x) cdv)) → (A.deeper (envOfC nm (defScope st) s.heap.objs.size (He.ga K x) cdv)).guards = some [] →
      Takes (cxOf (L2.CX P w) P w K mg base N nm (defScope st) (He.ga K x) cdv A outer s H E) (fun cls d _ H' => E cls d H') → CSs (cxOf (L2.CX P w) P w K mg base N nm (defScope st) (He.ga K x) cdv A outer s H E) (fun cls d _ H' => E cls d H') ms rs (defBody st) g) :
    Ok P w K mg base (k + 1) x ps pm rs n (bodyF pm n m g) := by
  obtain ⟨hx, fd, F⟩ := a
  exact ⟨fd, hx, F.kp, binds_of F hbind, fnG_body F S hn hm hms hrn hb⟩
end DL
end

section
set_option maxHeartbeats 2000000
namespace DL
open PySem PySem.Spec PyProof.Rows L2 PySem.W
/-! ## sorted(x, key=f), f a def of the module that gives (a whole number, a text) -/
/-- what a call keeps: all, but for the slots of the frames fs -/
structure KF (fs : List Addr) (h h' : Heap) : Prop where
  keep : ∀ b o, b ∉ fs → h.get? b = some o → h'.get? b = some o
  slot : ∀ b o, h.get? b = some o → ∃ sl, h'.get? b = some { o with slots := sl }
theorem KF.of {fs : List Addr} {h h' : Heap} (k : ∀ b o, h.get? b = some o → h'.get? b = some o) : KF fs h h' := ⟨fun b o _ e => k b o e, fun b o e => ⟨o.slots, k b o e⟩⟩
theorem KF.trans {fs : List Addr} {h h1 h2 : Heap} (a : KF fs h h1) (b : KF fs h1 h2) : KF fs h h2 := ⟨fun c o hc e => b.keep c o hc (a.keep c o hc e), fun c o e => by
  obtain ⟨sl, e1⟩ := a.slot c o e
  obtain ⟨sl2, e2⟩ := b.slot c _ e1
  exact ⟨sl2, e2⟩⟩
/-- an object x that the heap h did not hold is written -/
theorem KF.but {fs : List Addr} {h h1 h2 : Heap} {x : Addr} (a : KF fs h h1) (hx : h.get? x = none) (k : ∀ b o, b ≠ x → h1.get? b = some o → h2.get? b = some o) : KF fs h h2 := by
  have ne : ∀ b o, h.get? b = some o → b ≠ x := fun b o e z => by rw [z, hx] at e; cases e
  exact ⟨fun b o hb e => k b o (ne b o e) (a.keep b o hb e), fun b o e => by
    obtain ⟨sl, e1⟩ := a.slot b o e
    exact ⟨sl, k b _ (ne b o e) e1⟩⟩
/-- a key: a pair -/
abbrev Kp : Type := Int × Str
def kpD (k : Kp) : D := .tuple [.int k.1, .str k.2]
def KeyR (h : Heap) (u : Value) (k : Kp) : Prop := ∃ (c : Addr) (o : Obj) (m : Nat) (t t' : Tok), u = .ref c ∧ h.get? c = some o ∧ o.cls = .type "tuple" ∧ o.data = .seq #[.int k.1 t, .str k.2 t'] m
theorem KeyR.reads {h : Heap} {u : Value} {k : Kp} (x : KeyR h u k) : Reads h u (kpD k) [] := by
  obtain ⟨c, o, m, t, t', rfl, ho, hc, hd⟩ := x
  exact Reads.tuple ho hc hd (by
    show ReadsAll h [.int k.1 t, .str k.2 t'] [.int k.1, .str k.2] ([] ++ ([] ++ []))
    exact .cons (.int _ _) (.cons (.str _ _) .nil))
theorem KeyR.kf {fs : List Addr} {h h' : Heap} {u : Value} {k : Kp} (x : KeyR h u k) (f : KF fs h h') : KeyR h' u k := by
  obtain ⟨c, o, m, t, t', rfl, ho, hc, hd⟩ := x
  obtain ⟨sl, e⟩ := f.slot c o ho
  exact ⟨c, _, m, t, t', rfl, e, hc, hd⟩
theorem KeyR.but {h h' : Heap} {u : Value} {k : Kp} {x : Addr} {ox : Obj} (r : KeyR h u k) (hx : h.get? x = some ox) (hxc : ox.cls = .type "list") (kp : ∀ b o, b ≠ x → h.get? b = some o → h'.get? b = some o) : KeyR h' u k := by
  obtain ⟨c, o, m, t, t', rfl, ho, hc, hd⟩ := r
  have ne : c ≠ x := fun z => by
    rw [z, hx] at ho
    cases ho
    rw [hxc] at hc
    exact absurd hc (by decide)
  exact ⟨c, o, m, t, t', rfl, kp c o ne ho, hc, hd⟩
section
variable {prog : Program} {w : World} {A : Around} {E : Value → Shared → Prop} {a kS : Addr} {b : Bool} {vs : List Value} {kz : List Kp}
/-- what each turn leaves: bare, the same outside, and all that was there -/
structure Tn (fs : List Addr) (s s' : Shared) : Prop where
  os : s'.os = s.os
  bare : AllBare s'.gens
  kf : KF fs s.heap s'.heap
theorem sk_rest {f : Value} {fs : List Addr} {s0 s : Shared} {e1 : Nat} {P : PySem.Fin → Shared → Prop} (t0 : Tn fs s0 s) (ha0 : s0.heap.get? a = none) (hk0 : s0.heap.get? kS = none) (haf : a ∉ fs) (hkf : kS ∉ fs) (nk : s.heap.get? kS = some (seqObj "list" #[] 0)) (na : s.heap.get? a = some (seqObj "list" #[] e1)) (hka : kS ≠ a)
    (hlen : kz.length = vs.length) (hZ : vs.length ≤ sizeLine) (hal : AllAlike (kz.map kpD)) (hsk : Sortable (kz.map kpD)) (hu : ∀ d, d ∈ kz.map kpD → A.units + d.depth < cLine)
    (turn : ∀ (i : Nat) (v : Value) (k : Kp), vs[i]? = some v → kz[i]? = some k → ∀ s', Tn fs s0 s' →
      wpAny (model prog w) A (call f [v]) (fun u s'' => Tn fs s' s'' ∧ KeyR s''.heap u k) (fun _ _ => False) s')
    (h : ∀ s' out c, Tn fs s0 s' → s'.heap.get? a = some (seqObj "list" (List.toArray out) c) → KeyedOut b (kz.map kpD) vs out → P (.done (.ret .none)) s') :
    wpAny (model prog w) A (ksk_rest a f b vs.toArray e1 (.ref kS)) P E s := by
  unfold ksk_rest
  refine wpAny_bind (wpAny_rule ?_)
  first
    | rw [List.forIn_toArray]
    | (rw [← Array.forIn_toList]; simp only [List.toList_toArray])
    | rw [← Array.forIn_toList]
  refine wpAny_bind (ksk_fold (fun i s' => ∃ kA e, Tn fs s0 s' ∧ s'.heap.get? kS = some (seqObj "list" kA e) ∧ s'.heap.get? a = some (seqObj "list" #[] e1) ∧ EachIs (KeyR s'.heap) kA.toList (kz.take i)) vs 0 s
    ⟨#[], 0, t0, nk, na, by rw [List.take_zero]; exact EachIs.nil⟩ ?step ?done)
  case step =>
    rintro j x s' hx ⟨kA, e, T, nk', na', hk⟩
    simp only [Nat.zero_add] at hk ⊢
    have hj : j < vs.length := (List.getElem?_eq_some_iff.mp hx).1
    obtain ⟨k, hkj⟩ : ∃ k, kz[j]? = some k := ⟨_, List.getElem?_eq_getElem (by omega)⟩
    have hz : kA.size ≤ vs.length := by
      have h1 := hk.length
      rw [Array.length_toList, List.length_take] at h1
      omega
    refine wpAny_bind (wpAny_attempt (wpAny_mono (turn j x k hx hkj s' T) (fun v s'' he => ?_) fun _ _ hF => hF.elim))
    obtain ⟨T2, hr⟩ := he
    try dsimp only
    have nk2 : s''.heap.get? kS = some (seqObj "list" kA e) := T2.kf.keep _ _ hkf nk'
    have na2 : s''.heap.get? a = some (seqObj "list" #[] e1) := T2.kf.keep _ _ haf na'
    have s1 := Heap.SameBut.update s''.heap kS (Obj.mapSeq (·.push v))
    obtain ⟨c2, hc2⟩ : ∃ c2, (s''.heap.update kS (Obj.mapSeq (·.push v))).get? kS = some (seqObj "list" (kA.push v) c2) := ⟨_, get?_update_seq nk2 (·.push v)⟩
    have ek : kz.take (j + 1) = kz.take j ++ [k] := by rw [List.take_add_one, hkj]; simp
    have ea : (kA.push v).toList = kA.toList ++ [v] := by simp
    refine wpAny_bind (listUpdate_at nk2 rfl ?_ (Nat.le_trans hz hZ) (Nat.le_trans (Nat.le_of_eq (Array.size_push ..)) (Nat.succ_le_succ (Nat.le_trans hz hZ))))
    have kb : ∀ b o, b ≠ kS → s''.heap.get? b = some o → (s''.heap.update kS (Obj.mapSeq (·.push v))).get? b = some o := fun b o hb e => (s1.2 b hb).trans e
    refine wpAny_pure ⟨rfl, kA.push v, c2, ⟨T2.os.trans T.os, T2.bare, (T.kf.trans T2.kf).but hk0 kb⟩, hc2, kb a _ hka.symm na2, ?_⟩
    rw [ea, ek]
    refine each_snoc (R := KeyR (s''.heap.update kS (Obj.mapSeq (·.push v)))) (hr.but nk2 rfl kb) ?_
    exact hk.mono fun u d q => (q.kf T2.kf).but nk2 rfl kb
  case done =>
    rintro s' ⟨kA, e, T, nk', na', hk⟩
    have hk1 : EachIs (KeyR s'.heap) kA.toList kz := by
      have e3 : kz.take (0 + vs.length) = kz := List.take_of_length_le (by omega)
      rw [e3] at hk
      exact hk
    have hk' : EachIs (fun v k => ∃ as, Reads s'.heap v k as) kA.toList (kz.map kpD) := by
      have : ∀ {us : List Value} {ks : List Kp}, EachIs (KeyR s'.heap) us ks → EachIs (fun v k => ∃ as, Reads s'.heap v k as) us (ks.map kpD) := fun {us ks} x => by
        induction x with
        | nil => exact .nil
        | cons p _ ih => exact .cons ⟨[], p.reads⟩ ih
      exact this hk1
    have hsz : kA.size = vs.length := by
      have h1 := hk1.length
      rw [Array.length_toList] at h1
      omega
    try dsimp only
    refine wpAny_bind (listItems_at nk' rfl ?_)
    obtain ⟨G, g1, g2⟩ := restrict s'.heap fun b => decide (b ≠ kS)
    have gk : ∀ b o, b ≠ kS → s'.heap.get? b = some o → G.get? b = some o := fun b o hb e => by rw [g1 b (decide_eq_true hb)]; exact e
    have ga : G.get? kS = none := g2 kS (decide_eq_false fun z => z rfl)
    have gs : ∀ b o, G.get? b = some o → s'.heap.get? b = some o := fun b o e => by
      by_cases hb : b = kS
      · rw [hb, ga] at e; cases e
      · rw [g1 b (decide_eq_true hb)] at e; exact e
    exact keyH_end (κ := dataKind s'.heap (kz.map kpD)) (h₁ := G) (fun b o _ e => gs b o e) ga nk' na' hka (SortsAt.data (s := s') hk' hal hsk hu) hsz hZ fun h3 tk3 c k3 n3 => by
      have base : ∀ b o, b ≠ kS → b ≠ a → s'.heap.get? b = some o → h3.get? b = some o := fun b o hb hba e => k3 b o hba (gk b o hb e)
      have ne1 : ∀ b o, s0.heap.get? b = some o → b ≠ kS ∧ b ≠ a := fun b o e => ⟨fun z => (by rw [z, hk0] at e; cases e), fun z => (by rw [z, ha0] at e; cases e)⟩
      refine h { s' with heap := h3, toks := tk3 } _ c ⟨T.os, T.bare, ?_⟩ n3 ⟨s'.heap, kA.toList, hal, rfl, hk'⟩
      exact ⟨fun b o hb e => base b o (ne1 b o e).1 (ne1 b o e).2 (T.kf.keep b o hb e), fun b o e => by
        obtain ⟨sl, e1⟩ := T.kf.slot b o e
        exact ⟨sl, base b _ (ne1 b o e).1 (ne1 b o e).2 e1⟩⟩
theorem sk_tree {f : Value} {fs : List Addr} {s0 s : Shared} {n : Nat} {P : PySem.Fin → Shared → Prop} (t0 : Tn fs s0 s) (ha0 : s0.heap.get? a = none) (hsz0 : s0.heap.objs.size ≤ s.heap.objs.size) (hfs : ∀ c, s0.heap.objs.size ≤ c → c ∉ fs) (haf : a ∉ fs) (ho : s.heap.get? a = some (seqObj "list" vs.toArray n)) (hlen : kz.length = vs.length) (hZ : vs.length ≤ sizeLine) (hal : AllAlike (kz.map kpD)) (hsk : Sortable (kz.map kpD)) (hu : ∀ d, d ∈ kz.map kpD → A.units + d.depth < cLine)
    (turn : ∀ (i : Nat) (v : Value) (k : Kp), vs[i]? = some v → kz[i]? = some k → ∀ s', Tn fs s0 s' →
      wpAny (model prog w) A (call f [v]) (fun u s'' => Tn fs s' s'' ∧ KeyR s''.heap u k) (fun _ _ => False) s')
    (h : ∀ s' out c, Tn fs s0 s' → s'.heap.get? a = some (seqObj "list" (List.toArray out) c) → KeyedOut b (kz.map kpD) vs out → P (.done (.ret .none)) s') :
    wpAny (model prog w) A (ksk_tree a f b) P E s := by
  have ha : a < s.heap.objs.size := Heap.lt_size ho
  obtain ⟨e1, ho1⟩ : ∃ e1, (s.heap.update a (Obj.mapSeq fun _ => (#[] : Array Value))).get? a = some (seqObj "list" #[] e1) := ⟨_, get?_update_seq ho fun _ => #[]⟩
  have hkS : ((s.heap.update a (Obj.mapSeq fun _ => (#[] : Array Value))).push (seqObj "tuple" vs.toArray 0)).objs.size = s.heap.objs.size + 1 := by rw [size_push', Heap.size_update]
  unfold ksk_tree
  refine wpAny_bind (listItems_at ho rfl ?_)
  refine wpAny_bind (listUpdate_at ho rfl ?_ (by rw [List.size_toArray]; exact hZ) (Nat.zero_le _))
  refine wpAny_bind (seqEpoch_at ho1 rfl ?_)
  refine wpAny_bind (wpAny_newTuple ?_ (by show vs.length ≤ _; exact hZ))
  refine wpAny_bind (wpAny_newList ?_ (Nat.zero_le _))
  refine wpAny_holding ?_
  have kp : ∀ b o, b ≠ a → s.heap.get? b = some o → (sortingHeap s.heap a vs).get? b = some o := fun b o hb q => sortingHeap_old hb q
  refine sk_rest (kz := kz) (fs := fs) (s0 := s0) (s := { s with heap := ((s.heap.update a (Obj.mapSeq fun _ => (#[] : Array Value))).push (seqObj "tuple" vs.toArray 0)).push (seqObj "list" #[] 0) }) (kS := ((s.heap.update a (Obj.mapSeq fun _ => (#[] : Array Value))).push (seqObj "tuple" vs.toArray 0)).objs.size)
    ⟨t0.os, t0.bare, t0.kf.but ha0 kp⟩ ha0 (Heap.get?_none_of_le (by rw [hkS]; omega)) haf (hfs _ (by rw [hkS]; omega)) (Heap.get?_push_size _ rfl) (Heap.get?_push_of_some _ (Heap.get?_push_of_some _ ho1)) (by rw [hkS]; exact Nat.ne_of_gt (Nat.lt_succ_of_lt ha)) hlen hZ hal hsk hu turn h
/-- sorted(xs, key=f) -/
theorem sk_sorted {l q : Addr} {fs : List Addr} {s : Shared} {Q : Value → Shared → Prop} (hb : AllBare s.gens) (hl : s.heap.IsList l vs.toArray) (hlen : kz.length = vs.length) (hZ : vs.length ≤ sizeLine) (hfs : ∀ c, s.heap.objs.size ≤ c → c ∉ fs) (hal : AllAlike (kz.map kpD)) (hsk : Sortable (kz.map kpD)) (hu : ∀ d, d ∈ kz.map kpD → A.in1.in1.units + d.depth < cLine)
    (turn : ∀ (i : Nat) (v : Value) (k : Kp), vs[i]? = some v → kz[i]? = some k → ∀ s', Tn fs s s' →
      wpAny (model prog w) A.in1.in1 (call (.ref q) [v]) (fun u s'' => Tn fs s' s'' ∧ KeyR s''.heap u k) (fun _ _ => False) s')
    (h : ∀ s' out c, Tn fs s s' → s'.heap.get? (s.heap.objs.size + 1) = some (seqObj "list" (List.toArray out) c) → KeyedOut false (kz.map kpD) vs out → Q (.ref (s.heap.objs.size + 1)) s') :
    wpAny (model prog w) A (call (.builtin "sorted") [.ref l] [(Str.ofString "key", .ref q)]) Q E s := by
  have fresh : s.heap.get? (s.heap.objs.size + 1) = none := Heap.get?_none_of_le (Nat.le_succ _)
  refine sorted_of_sort hl hZ (ksk_s1 _ _) (fun x => ksk_l1 _ _) fun E' => ?_
  rw [ksk_t1]
  refine sk_tree (kz := kz) (fs := fs) (s0 := s) (s := { s with heap := copyHeap s.heap vs }) ⟨rfl, hb, KF.of fun b o e => copyHeap_old e⟩ fresh ?_ hfs (hfs _ (Nat.le_succ _)) (copyHeap_at s.heap vs) hlen hZ hal hsk hu turn fun s' out c T hD ko => ⟨rfl, h s' out c T hD ko⟩
  exact Nat.le_of_lt (Nat.lt_trans (Nat.lt_succ_self _) (Heap.lt_size (copyHeap_at s.heap vs)))
end
end DL
end

section
set_option maxHeartbeats 2000000
namespace DL
open PySem PySem.Spec PyProof.Rows L2 PySem.W
/-! ## sorted(texts, key=f) in the hand layer -/
/-- f's key of the text x -/
def keyOfF (F : FS) (x : Str) : Option Kp := match F [.str x] with
  | .ok (.tuple [.int n, .str z]) _ => some (n, z)
  | _ => none
theorem keyOfF_ok {F : FS} {x : Str} {k : Kp} (h : keyOfF F x = some k) : ∃ ro, F [.str x] = .ok (kpD k) ro := by
  unfold keyOfF at h
  split at h
  · rename_i n z ro e
    cases h
    exact ⟨ro, e⟩
  · cases h
def keyD (F : FS) (x : Str) : Kp := (keyOfF F x).getD (0, ⟨#[]⟩)
def sortK (F : FS) (ts : List Str) : List Str := ts.mergeSort (dataLe false fun x => kpD (keyD F x))
def cSortK (F : FS) : List D → Option (List D)
  | [.list ds] => match strsOf ds with
    | some ss => if ss.length ≤ sizeLine ∧ ∀ x ∈ ss, (keyOfF F x).isSome = true then some ((sortK F ss).map .str) else none
    | none => none
  | _ => none
theorem alike_kp (a b : Kp) : alike (kpD a) (kpD b) = true := by simp [kpD, alike, alikeAll]
theorem alike_kps (ks : List Kp) : AllAlike (ks.map kpD) := fun d hd e he => by
  obtain ⟨a, _, rfl⟩ := List.mem_map.mp hd
  obtain ⟨b, _, rfl⟩ := List.mem_map.mp he
  exact alike_kp a b
theorem sortable_kps (ks : List Kp) : Sortable (ks.map kpD) := .inl fun d hd => by
  obtain ⟨a, _, rfl⟩ := List.mem_map.mp hd
  exact ⟨_, _, rfl⟩
theorem depth_kp (a : Kp) : (kpD a).depth = 1 := by simp [kpD, PyData.depth, PyData.depthAll]
section
variable {X : Cx} {k : Nat} {q : Addr} {fd : FuncData} {pn : Str} {pm : Ms} {F : FS}
theorem sk_turn {pins : List (Addr × Obj)} {σ : L2.St} {H : Hp} {s s' : Shared} (I : Inv X pins σ H s) (FN : FnG X.prog X.w X.K X.mg X.base k q fd [pn] (spF X.w X.K X.mg pm .pur 1 F)) (hr : Room k X.A.in1.in1) (hgd : X.A.guards = some []) (hb : Binds X.K fd [pn] [])
    (hpm : (pm 0).sh = .pur) (T : Tn (frs X.stack) s s') {v : Value} {x : Str} (rv : RelV (.str x) v) {kp : Kp} (hk : keyOfF F x = some kp) :
    wpAny (model X.prog X.w) X.A.in1.in1 (call (.ref q) [v]) (fun u s'' => Tn (frs X.stack) s' s'' ∧ KeyR s''.heap u kp) (fun _ _ => False) s' := by
  obtain ⟨ro, hF⟩ := keyOfF_ok hk
  have nf : ∀ b o, X.base.get? b = some o → b ∉ frs X.stack := fun b o e z => by
    have := (I.stack.mem z).1
    rw [e] at this; cases this
  have bs : ∀ b o, X.base.get? b = some o → s'.heap.get? b = some o := fun b o e => T.kf.keep b o (nf b o e) (I.bs b o e).1
  have kin : X.K.In s'.heap := I.ok.mod.kin.keeps bs
  have funs : s'.heap.FunFrames X.base X.stack := by
    have all : ∀ (l : List Env), s.heap.FunFrames X.base l → s'.heap.FunFrames X.base l := by
      intro l
      induction l with
      | nil => intro _; trivial
      | cons env r ih =>
        intro hl
        obtain ⟨hk, ⟨L, o, hf, hn, ho, hd⟩, hr⟩ := hl
        obtain ⟨sl, e⟩ := T.kf.slot L o ho
        exact ⟨hk, ⟨L, _, hf, hn, e, hd⟩, ih hr⟩
    exact all _ I.stack
  have bsz : X.base.objs.size ≤ s'.heap.objs.size := by
    obtain ⟨m, ⟨o, es, ep, ho, _⟩, _⟩ := I.loc
    obtain ⟨sl, e⟩ := T.kf.slot _ _ ho
    exact Nat.le_of_lt (Nat.lt_of_le_of_lt (Nat.le_trans I.ok.bsz I.ok.above) (Heap.lt_size e))
  have e0 : Env0 X.prog X.w X.K X.mg X.base X.A.in1.in1 X.stack s' (fun _ => none) :=
    ⟨I.ok.frames, I.ok.mod, fun b o e => ⟨bs b o e, rfl⟩, bsz, funs, fun _ _ => rfl, (fun _ _ e => nomatch e), T.bare⟩
  have b := hb s' [v] kin rfl
  rw [List.append_nil] at b
  have sp : spF X.w X.K X.mg pm .pur 1 F [.str x] (fun _ => none) (fun v H' => Rep X.K H' v (kpD kp)) (fun _ _ _ => False) := by
    refine ⟨[.str x], fun _ => [], fun _ => False, rfl, rfl, ⟨rfl, fun i d h => ?_, fun _ _ => rfl, fun _ z => z.elim, (fun _ _ _ z => nomatch z), (fun _ _ z => nomatch z)⟩, ?_⟩
    · match i, h with
      | 0, h =>
        cases h
        refine ⟨.str x, rfl, ?_⟩
        rw [hpm]
        exact .pur (.str x)
      | _ + 1, h => simp at h
    · rw [hF]
      intro v H' O' A R' E' nA rp
      obtain ⟨rfl, rp⟩ := rp.purI
      exact rp.mono msk_sub
  refine wpAny_call (codeAny_mono (FN.run X.A.in1.in1 X.stack s' (fun _ => none) ⟨[v], []⟩ [v] [.str x] _ _ hr hgd e0 b (.cons rv .nil) sp) fun r s2 hq => ?_)
  cases r with
  | error e =>
    obtain ⟨_, _, _, _, _, _, _, _, _, _, _, _, z⟩ := hq
    exact z
  | ok fl =>
    cases fl with
    | next => exact False.elim hq
    | brk => exact False.elim hq
    | cont => exact False.elim hq
    | ret u =>
      obtain ⟨v1, H', os, bare, un, hok, rv1, rp⟩ := hq
      refine ⟨⟨os, bare, ⟨fun b o hb e => un.keep b o e rfl hb (by simp), fun b o e => un.any e rfl (by simp)⟩⟩, ?_⟩
      obtain ⟨a, xs, rfl, hs, ra⟩ := Rep.tupI rp
      obtain rfl : u = .ref a := rv1
      have kin2 : X.K.In s2.heap := I.ok.mod.kin.keeps fun b o e => un.keep b o (bs b o e) rfl (nf b o e) (by simp)
      have hx : xs = [V.int kp.1, V.str kp.2] := by
        cases ra with
        | cons a1 t =>
          cases t with
          | cons a2 t2 =>
            cases t2
            rw [a1.intI, a2.strI]
      subst hx
      have ht : ∃ its : List Value, Vals [V.int kp.1, V.str kp.2] its ∧ IsTup s2.heap a its.toArray := by
        rcases hs with h | ⟨o, its, n, hk, hc, hs, hz, r⟩
        · obtain ⟨z, its, r, p⟩ := h.ok hok
          exact ⟨its, r, p⟩
        · exact ⟨its.toList, r, ⟨o, kin2 a o hk, hc, n, by simpa using hs⟩⟩
      obtain ⟨its, hv, o, ho, hc, n, hd⟩ := ht
      cases hv with
      | cons a1 t =>
        cases t with
        | cons a2 t2 =>
          cases t2
          obtain ⟨t1, rfl⟩ := a1
          obtain ⟨t2, rfl⟩ := a2
          exact ⟨a, o, n, t1, t2, rfl, ho, hc, hd⟩
def rSortK (K : PySem.W.Frag) (F : FS) (q : Addr) : List V → List V → Hp → VK → Prop := fun vs zs H Q => ∃ (a : Addr) (ts : List Str), vs = [V.ref a] ∧ zs = [V.ref q] ∧ SqL K H a (ts.map V.str) ∧ ts.length ≤ sizeLine ∧ (∀ x ∈ ts, (keyOfF F x).isSome = true) ∧
  ∀ p : Addr, H p = none → Q (.ref p) (upd H p (.lst ((sortK F ts).map V.str)))
theorem each_strs : ∀ {us : List Value} {xs : List Str}, Vals (xs.map V.str) us → EachIs (fun u x => RelV (.str x) u) us xs
  | _, [], .nil => .nil
  | _, _ :: _, .cons a b => .cons a (each_strs b)
theorem vals_each : ∀ {us : List Value} {xs : List Str}, EachIs (fun u x => RelV (.str x) u) us xs → Vals (xs.map V.str) us
  | _, _, .nil => .nil
  | _, _, .cons a b => .cons a (vals_each b)
theorem each_at {us : List Value} {xs : List Str} (h : EachIs (fun u x => RelV (.str x) u) us xs) : ∀ (i : Nat) (v : Value) (x : Str), us[i]? = some v → xs[i]? = some x → RelV (.str x) v := by
  induction h with
  | nil => intro i v x h; simp at h
  | cons a _ ih =>
    intro i v x h1 h2
    cases i with
    | zero =>
      simp only [List.getElem?_cons_zero, Option.some.injEq] at h1 h2
      rw [← h1, ← h2]; exact a
    | succ i =>
      simp only [List.getElem?_cons_succ] at h1 h2
      exact ih i v x h1 h2
theorem cr_sortK (FN : FnG X.prog X.w X.K X.mg X.base k q fd [pn] (spF X.w X.K X.mg pm .pur 1 F)) (hr : Room (k + 2) X.A) (hgd : X.A.guards = some []) (hb : Binds X.K fd [pn] []) (hpm : (pm 0).sh = .pur) : CallRK X (.builtin "sorted") [Str.ofString "key"] (rSortK X.K F q) := by
  intro pins s σ H vs zs us ws Q I r rz h
  obtain ⟨a, ts, rfl, rfl, hs, hz, hk, Qh⟩ := h
  obtain rfl := Vals.ref1 r
  obtain rfl := Vals.ref1 rz
  obtain ⟨its, rv, hl, _⟩ := I.list hs
  have hln := rv.length
  rw [List.length_map] at hln
  have hfs : ∀ c, s.heap.objs.size ≤ c → c ∉ frs X.stack := fun c hc z => by
    rcases List.mem_cons.mp (I.stkSub c z) with e | e
    · exact absurd I.lt (by rw [← e]; exact Nat.not_lt.mpr hc)
    · exact I.nofs hc e
  have hr1 : Room k X.A.in1.in1 := Room.in1 (Room.in1 hr)
  refine sk_sorted (kz := ts.map (keyD F)) (fs := frs X.stack) I.bare hl.isList (by rw [List.length_map, hln]) (by rw [← hln]; exact hz) hfs (alike_kps _) (sortable_kps _) (fun d hd => ?_) (fun i v kp hv hkp s' T => ?_) fun s' out c T at_ ko => ?_
  · obtain ⟨b, _, rfl⟩ := List.mem_map.mp hd
    rw [depth_kp]
    have := hr1.units
    omega
  · rw [List.getElem?_map] at hkp
    cases hx : ts[i]? with
    | none => rw [hx] at hkp; cases hkp
    | some x =>
      rw [hx] at hkp
      cases hkp
      obtain ⟨kp, e⟩ := Option.isSome_iff_exists.mp (hk x (List.mem_of_getElem? hx))
      have e2 : keyD F x = kp := by unfold keyD; rw [e]; rfl
      rw [e2]
      exact sk_turn I FN hr1 hgd hb hpm T (each_at (each_strs rv) i v x hv hx) e
  · have ko1 : EachIs (fun u x => RelV (.str x) u) out (sortK F ts) := keyedOut_each (fun x => kpD (keyD F x)) (by rw [List.map_map] at ko; exact ko) (each_strs rv)
    have hn : H (s.heap.objs.size + 1) = none := I.hok.fresh (Nat.le_succ _)
    have ne : ∀ b u, H b = some u → b ≠ s.heap.objs.size + 1 := fun b u e z => by rw [z, hn] at e; cases e
    have un : Un (frs X.stack) [] H (upd H (s.heap.objs.size + 1) (.lst ((sortK F ts).map V.str))) s.heap s'.heap :=
      ⟨fun b o e _ hb _ => T.kf.keep b o hb e, fun b o e _ _ _ => T.kf.slot b o e, fun b o e n _ => by rw [upd_ne (fun z => absurd (Heap.lt_size e) (by rw [z]; exact Nat.not_lt.mpr (Nat.le_succ _)))]; exact n, fun b o e _ => ⟨_, (T.kf.slot b o e).choose_spec⟩,
        fun b xs e => by rw [upd_ne (ne b _ e)]; exact e, fun b o u e => by rw [upd_ne (ne b _ e)]; exact e, fun b ps e => ⟨#[], by rw [upd_ne (ne b _ e), e]; simp⟩⟩
    have hok : HOk X.prog X.w (upd H (s.heap.objs.size + 1) (.lst ((sortK F ts).map V.str))) s'.heap := fun b u e => by
      by_cases hb : b = s.heap.objs.size + 1
      · subst hb
        rw [upd_same] at e
        cases e
        exact ⟨by rw [List.length_map]; unfold sortK; rw [List.length_mergeSort]; exact hz, out, c, vals_each ko1, at_⟩
      · rw [upd_ne hb] at e
        refine (I.hok b u e).stay (fun c v hc g => T.kf.keep c v (fun z => ?_) g) (fun c g => by rw [upd_ne (ne c _ g)]; exact g) fun c xs g => by rw [upd_ne (ne c _ g)]; exact g
        have f := I.stkFree c z
        rcases hc with hc | hc
        · rw [hc, e] at f; cases f
        · rw [hc] at f; cases f
    exact ⟨.ref _, _, I.call' (ch := []) T.os un hok T.bare (fun _ z => nomatch z), rfl, Qh _ hn⟩
end
section
variable {X : Cx} {W : WX} {ms pm : Ms} {k j : Nat} {ps : List Str} {F : FS} {x pn : Str} {p p2 pos kp : Pos} {e : Expr} {as : Rho → R (List Opd)}
theorem ceo_sortK (h : Ok X.prog X.w X.K X.mg X.base j x [pn] pm .pur 1 F) (hr : Room k X.A) (hgd : X.A.guards = some []) (hj : j + 2 ≤ k) (hpm : (pm 0).sh = .pur) (ha : CA X W ms [e] as) (hms : X.mg "sorted" = none) (hg : Gl X "sorted" := by rfl) (hgx : Gl X x := by rfl) (hdb : (x == ("__debug__" : Str)) = false := by decide)
    (he : backTo pos (starEach [e] X.env) = (false, eval e X.env) :: backTo pos (starEach [] X.env) := by rfl) (hpl : (backTo pos (starEach [e] X.env)).any (·.1) = false := by rfl)
    (hall : (backToKw pos (keywordEach [⟨some (Str.ofString "key"), .Name x p2, kp⟩] X.env)).all (·.1.isSome) = true := by rfl) (hnone : (backToKw pos (keywordEach [⟨some (Str.ofString "key"), .Name x p2, kp⟩] X.env)).any (·.1.isNone) = false := by rfl) (hks : (backToKw pos (keywordEach [⟨some (Str.ofString "key"), .Name x p2, kp⟩] X.env)).filterMap (·.1) = [Str.ofString "key"] := by rfl) :
    CEo X W ms .lst (.Call (.Name "sorted" p) [e] [⟨some (Str.ofString "key"), .Name x p2, kp⟩] pos) (eCallL (cSortK F) as) := by
  obtain ⟨fd, h1, h2, h3, h4⟩ := h
  have hr2 : Room (j + 2) X.A := hr.mono hj
  refine (pe_callBK (cr_sortK h4 hr2 hgd h3 hpm) hg hms (by rfl) ha (pk_cons (pe_glob hgx h1 (show RelV (.ref _) (.ref _) from rfl) hdb) pk_nil) (by decide) (by decide) he hpl hall hnone hks).weak fun σ H Q h => ?_
  have sem : SemL X (fun vs H Q => rSortK X.K F (He.ga X.K x) vs [.ref (He.ga X.K x)] H Q) (cSortK F) := fun xs ds es H W Q rp tr e q => by
    unfold cSortK at e
    split at e
    · rename_i ds
      obtain ⟨v, rfl, rv⟩ := rp.one
      obtain ⟨a, xs, rfl, rd, ra⟩ := rv.lstI
      split at e
      · rename_i ss es
        obtain ⟨⟨hz, hk⟩, rfl⟩ := ite_some e
        rw [strsOf_eq es] at ra
        have := ra.strs
        subst this
        exact ⟨a, ss, rfl, rfl, .inl rd, hz, hk, fun p hn => q _ H p (Same.refl _) hn (repStrs _)⟩
      · cases e
    · cases e
  exact callL_read sem h
end
/-! ## >= of tuples -/
def dGe2 : D → D → Option D
  | .tuple xs, .tuple ys => if (PySem.W.alike (.tuple xs) (.tuple ys) && decide ((PyData.tuple xs).depth ≤ 60)) = true then some (.bool (!PySem.W.dataLt (.tuple xs) (.tuple ys))) else none
  | x, y => dGe x y
def rGeD (K : PySem.W.Frag) : R2 := fun x y H Q => ∃ d e, Dp K H x d ∧ Dp K H y e ∧ PySem.W.alike d e = true ∧ d ≠ .none ∧ d.depth ≤ 60 ∧ Q (.bl (!PySem.W.dataLt d e)) H
section
variable {X : Cx}
theorem op_geD (hu : X.A.units + 64 < cLine) : OpR X (compareOp .GtE) (rGeD X.K) := by
  intro pins s σ H x y v u Q I rx ry h
  obtain ⟨d, e, hd, he, sd, sn, dp, q⟩ := h
  obtain ⟨as, r1⟩ := Dp.reads I d x v hd rx
  obtain ⟨bs, r2⟩ := Dp.reads I e y u he ry
  exact PySem.W.ge_data r1 r2 sd sn (by omega) ⟨.bl _, H, I, rfl, q⟩
theorem or_ge2 (hu : X.A.units + 64 < cLine) : OpR X (compareOp .GtE) (fun x y H Q => rOrd (fun i j => decide (j ≤ i)) (fun a b => !decide (a < b)) x y H Q ∨ rGeD X.K x y H Q) := or_ge.or (op_geD hu)
theorem sr_ge2 : SemR X (fun x y H Q => rOrd (fun i j => decide (j ≤ i)) (fun a b => !decide (a < b)) x y H Q ∨ rGeD X.K x y H Q) dGe2 := fun x y a b d H W Q ra rb tr e q => by
  have gen : dGe a b = some d → rOrd (fun i j => decide (j ≤ i)) (fun a b => !decide (a < b)) x y H Q ∨ rGeD X.K x y H Q := fun e => .inl (sr_ge x y a b d H W Q ra rb tr e q)
  by_cases h : ∃ as bs, a = .tuple as ∧ b = .tuple bs
  · obtain ⟨as, bs, rfl, rfl⟩ := h
    obtain ⟨hz, rfl⟩ := ite_some e
    obtain ⟨h1, h2⟩ := Bool.and_eq_true_iff.mp hz
    exact .inr ⟨_, _, ra.rep.dp, rb.rep.dp, h1, (fun z => nomatch z), of_decide_eq_true h2, q (.bl _) H (Same.refl _) (.bl _)⟩
  · refine gen ?_
    cases a <;> cases b <;> first | exact e | exact absurd ⟨_, _, rfl, rfl⟩ h
end
theorem dGe2_words (a b : List Nat) : dGe2 (.tuple [.int (a.length : Int), .str ⟨a.toArray⟩]) (.tuple [.int (b.length : Int), .str ⟨b.toArray⟩]) = some (.bool (!decide (a.length < b.length ∨ (a.length = b.length ∧ a < b)))) := by
  rw [← dLt_words]
  have h : PySem.W.alike (.tuple [.int (a.length : Int), .str ⟨a.toArray⟩]) (.tuple [.int (b.length : Int), .str ⟨b.toArray⟩]) = true := by simp [PySem.W.alike, PySem.W.alikeAll]
  have h2 : (PyData.tuple [.int (a.length : Int), .str ⟨a.toArray⟩]).depth = 1 := by simp [PyData.depth, PyData.depthAll]
  unfold dGe2
  simp only [h, h2]
  rfl
/-- two words in their order -/
theorem sortK_two {F : FS} {a b : Str} {ka kb : Kp} (ha : keyOfF F a = some ka) (hb : keyOfF F b = some kb) (h : PySem.W.dataLt (kpD kb) (kpD ka) = false) : sortK F [a, b] = [a, b] := by
  have e : dataLe false (fun x => kpD (keyD F x)) a b = true := by
    show (!PyProof.Rows.lexLt itemOrd (keyToks (kpD (keyD F b))) (keyToks (kpD (keyD F a)))) = true
    unfold keyD
    rw [ha, hb]
    show (!PySem.W.dataLt (kpD kb) (kpD ka)) = true
    rw [h]; rfl
  unfold sortK
  simp [List.mergeSort, List.MergeSort.Internal.splitInTwo, List.merge, e]
theorem sortK_two' {F : FS} {a b : Str} {ka kb : Kp} (ha : keyOfF F a = some ka) (hb : keyOfF F b = some kb) (h : PySem.W.dataLt (kpD kb) (kpD ka) = true) : sortK F [a, b] = [b, a] := by
  have e : dataLe false (fun x => kpD (keyD F x)) a b = false := by
    show (!PyProof.Rows.lexLt itemOrd (keyToks (kpD (keyD F b))) (keyToks (kpD (keyD F a)))) = false
    unfold keyD
    rw [ha, hb]
    show (!PySem.W.dataLt (kpD kb) (kpD ka)) = false
    rw [h]; rfl
  unfold sortK
  simp [List.mergeSort, List.MergeSort.Internal.splitInTwo, List.merge, e]
@[simp] theorem v_sDputC (n : Bool) (i : Nat) (fv fk : Rho → R D) (r : Rho) : sDputC n i fv fk r = (fv r).toS fun d r1 => match (Pth.s i).get r1 with
  | some (.dict _) => (fk r1).toS fun kd r2 => putDk n i kd d r2
  | _ => .bad := Eq.trans rfl rfl
@[simp] theorem v_putDk (n : Bool) (i : Nat) (kd d : D) (r : Rho) : putDk n i kd d r = match (Pth.s i).get r with
  | some (.dict ds) => if (keyFit n kd && decide (ds.length < sizeLine)) = true then .nx ((Pth.s i).set r (.dict (putD ds kd d))) else .bad
  | _ => .bad := Eq.trans rfl rfl
end DL
end

section
set_option maxHeartbeats 2000000
namespace DL
open PySem PySem.Spec PySem.Calls PyProof.Rows PyProof.V L2 PySem.W
/-! ## sorted(d, key=f), d a dict of texts -/
section
variable {prog : Program} {w : World} {A : Around} {E : Value → Shared → Prop} {s : Shared} {T : String} {r d : Addr} {n : Nat} {P : Nat → Value → Prop} {OK : Heap → Prop}
theorem kdu_collectS {R : List Value → Shared → Prop} (K : KdlSrc prog w T r d n P OK) (hh : A.handled = none) (hok : OK s.heap) (hn : n ≤ sizeLine)
    (h : ∀ (h' : Heap) (tk : Nat) (acc : Array Value), (∀ b o, s.heap.get? b = some o → h'.get? b = some o) → s.heap.objs.size < h'.objs.size → ItemsOf P acc n → R acc.toList { s with heap := h', toks := tk }) :
    wpAny (model prog w) A (collect (.ref r)) R E s := by
  have hlt := K.there _ hok
  unfold collect
  refine wpAny_bind (wpAny_runValue (codeAny_builtin entry_proto_collect' ?_))
  rw [Around.under_plainId PySem.F.plain_proto_collect _]
  show wpAny _ A.in1 (newList [] >>= fun l => again (.builtin "list.__iadd__" ⟨[l, .ref r], []⟩)) _ _ s
  refine wpAny_bind (wpAny_newObj_type ?_)
  refine wpAny_pure ⟨plainId_quiet PySem.F.plain_list_iadd _, codeAny_builtin entry_list_iadd' ?_⟩
  rw [Around.under_plainId PySem.F.plain_list_iadd _]
  have hS₁ : (s.heap.push { cls := .type "list", data := .seq ([] : List Value).toArray }).get? s.heap.objs.size = some { cls := .type "list", data := .seq #[] } := Heap.get?_push_size _ rfl
  show wpAny _ A.in1 (Builtin.List.listExtendWith (.ref s.heap.objs.size) (.ref r) (.ref s.heap.objs.size)) _ _ _
  have key := kdl_extend (A := A) (s := { s with heap := s.heap.push { cls := .type "list", data := .seq ([] : List Value).toArray } })
    (R := fun (q : Result) (s' : Shared) => ∃ (h' : Heap) (tk : Nat) (acc' : Array Value) (c' : Nat), q = .ok (.ret (.ref s.heap.objs.size)) ∧ s' = { s with heap := h', toks := tk } ∧
      (∀ b o, s.heap.get? b = some o → h'.get? b = some o) ∧ h'.get? s.heap.objs.size = some { cls := .type "list", dict := none, data := .seq acc' c', slots := #[] } ∧ ItemsOf P acc' n)
    K hh (K.keep _ _ hok fun b _ o e => Heap.get?_push_of_some _ e) s.heap.objs.size (Nat.ne_of_gt hlt.1) (Nat.ne_of_gt hlt.2) (.ref s.heap.objs.size) 0 hS₁
    (fun h' tk acc' c' hk hS' hacc => ⟨h', tk, acc', c', rfl, rfl, fun b o e => hk b o (Nat.ne_of_lt (Heap.lt_size e)) (Heap.get?_push_of_some _ e), hS', hacc⟩) hn
  refine wpAny_mono key (fun fin s' x => ?_) fun e s' x => ?_
  · cases fin with
    | done f =>
      obtain ⟨h', tk, acc', c', e, rfl, hk, hS', hacc⟩ := x
      cases e
      show wpAny _ A (load s.heap.objs.size >>= _) _ _ _
      refine wpAny_bind (wpAny_load hS' ?_)
      exact wpAny_pure (h h' tk acc' hk (Heap.lt_size hS') hacc)
    | again c₁ =>
      refine ⟨x.1, codeAny_mono x.2 fun q s₂ y => ?_⟩
      obtain ⟨h', tk, acc', c', rfl, rfl, hk, hS', hacc⟩ := y
      show wpAny _ A (load s.heap.objs.size >>= _) _ _ _
      refine wpAny_bind (wpAny_load hS' ?_)
      exact wpAny_pure (h h' tk acc' hk (Heap.lt_size hS') hacc)
  · obtain ⟨_, _, _, _, e', _⟩ := x
    cases e'
theorem sk_sortedD {q : Addr} {fs : List Addr} {kz : List Kp} {Q : Value → Shared → Prop} (K : KdlSrc prog w T r d n P OK) (hh : A.handled = none) (hok : OK s.heap) (hn : n ≤ sizeLine) (hb : AllBare s.gens) (hlen : kz.length = n) (hfs : ∀ c, s.heap.objs.size ≤ c → c ∉ fs) (hal : AllAlike (kz.map kpD)) (hsk : Sortable (kz.map kpD)) (hu : ∀ d, d ∈ kz.map kpD → A.in1.in1.units + d.depth < cLine)
    (turn : ∀ (i : Nat) (v : Value) (k : Kp), P i v → kz[i]? = some k → ∀ s', Tn fs s s' →
      wpAny (model prog w) A.in1.in1 (call (.ref q) [v]) (fun u s'' => Tn fs s' s'' ∧ KeyR s''.heap u k) (fun _ _ => False) s')
    (h : ∀ s' p vs out c, s.heap.objs.size ≤ p → vs.length = n → (∀ (j : Nat) (v : Value), vs[j]? = some v → P j v) → Tn fs s s' → s'.heap.get? p = some (seqObj "list" (List.toArray out) c) → KeyedOut false (kz.map kpD) vs out → Q (.ref p) s') :
    wpAny (model prog w) A (call (.builtin "sorted") [.ref r] [(Str.ofString "key", .ref q)]) Q E s := by
  refine call_function_entry_kw kind_sorted plain_sorted entry_sorted (ksk_s1 _ _) ?_
  unfold Builtin.«sorted»
  refine wpAny_bind (m := checkCount "sorted" 1 1 _) (wpAny_pure ?_)
  refine wpAny_bind (kdu_collectS (A := A.in1) K hh hok hn fun h' tk acc hk hsz hacc => ?_)
  have hl : acc.toList.length = n := by rw [Array.length_toList]; exact hacc.1
  have hit : ∀ (j : Nat) (v : Value), acc.toList[j]? = some v → P j v := fun j v e => hacc.2 j v (by rw [← Array.getElem?_toList]; exact e)
  refine wpAny_bind (wpAny_newList ?_ (by rw [hl]; exact hn))
  have at_ : (h'.push (seqObj "list" acc.toList.toArray 0)).get? h'.objs.size = some (seqObj "list" acc.toList.toArray 0) := Heap.get?_push_size _ rfl
  refine wpAny_bind (wpAny_holding (wpAny_call_entry_kw slot_list_sort ⟨_, at_, rfl⟩ entry_list_sort ?body (ksk_l1 _ _)))
  case body =>
    show wpAny (model prog w) A.in1.in1 (Builtin.«list.sort» ⟨[.ref h'.objs.size], [(Str.ofString "key", .ref q)]⟩) _ _ _
    rw [ksk_t1]
    have fresh : s.heap.get? h'.objs.size = none := Heap.get?_none_of_le (Nat.le_of_lt hsz)
    refine sk_tree (kz := kz) (fs := fs) (s0 := s) (s := { s with heap := h'.push (seqObj "list" acc.toList.toArray 0), toks := tk }) ⟨rfl, hb, KF.of fun b o e => Heap.get?_push_of_some _ (hk b o e)⟩ fresh ?_ hfs (hfs _ (Nat.le_of_lt hsz)) at_ (by rw [hl]; exact hlen) (by rw [hl]; exact hn) hal hsk hu (fun i v k hv hkz s' T => turn i v k (hit i v hv) hkz s' T) fun s' out c T hD ko => ?_
    · show s.heap.objs.size ≤ (h'.push (seqObj "list" acc.toList.toArray 0)).objs.size
      rw [size_push']
      exact Nat.le_of_lt (Nat.lt_succ_of_lt hsz)
    · exact ⟨_, rfl, wpAny_pure ⟨_, rfl, h s' _ _ out c (Nat.le_of_lt hsz) hl hit T hD ko⟩⟩
end
def rSortKD (F : FS) (q : Addr) : List V → List V → Hp → VK → Prop := fun vs zs H Q => ∃ (a : Addr) (kvs : List (Key × V)) (ts : List Str), vs = [V.ref a] ∧ zs = [V.ref q] ∧ H a = some (.dK kvs) ∧ kvs.map (·.1) = ts.map Sum.inr ∧ ts.length ≤ sizeLine ∧ (∀ x ∈ ts, (keyOfF F x).isSome = true) ∧
  ∀ p : Addr, H p = none → Q (.ref p) (upd H p (.lst ((sortK F ts).map V.str)))
theorem each_of {ts : List Str} {vs : List Value} (hl : vs.length = ts.length) (h : ∀ (j : Nat) (v : Value) (x : Str), vs[j]? = some v → ts[j]? = some x → RelV (.str x) v) : EachIs (fun u x => RelV (.str x) u) vs ts := by
  induction vs generalizing ts with
  | nil =>
    cases ts with
    | nil => exact .nil
    | cons _ _ => simp at hl
  | cons v vs ih =>
    cases ts with
    | nil => simp at hl
    | cons x ts => exact .cons (h 0 v x rfl rfl) (ih (by simpa using hl) fun j v x h1 h2 => h (j + 1) v x (by simpa using h1) (by simpa using h2))
section
variable {X : Cx} {k : Nat} {q : Addr} {fd : FuncData} {pn : Str} {pm : Ms} {F : FS}
theorem cr_sortKD (hc : X.calm = true) (FN : FnG X.prog X.w X.K X.mg X.base k q fd [pn] (spF X.w X.K X.mg pm .pur 1 F)) (hr : Room (k + 2) X.A) (hgd : X.A.guards = some []) (hb : L2.Binds X.K fd [pn] []) (hpm : (pm 0).sh = .pur) : CallRK X (.builtin "sorted") [Str.ofString "key"] (rSortKD F q) := by
  intro pins s σ H vs zs us ws Q I r rz h
  obtain ⟨a, kvs, ts, rfl, rfl, hk, hts, hz, hkey, Qh⟩ := h
  obtain rfl := Vals.ref1 r
  obtain rfl := Vals.ref1 rz
  obtain ⟨z, lo, ys, rk, hd⟩ := (show ObjOk X.prog X.w H s.heap a (.dK kvs) from I.hok a _ hk)
  obtain ⟨ep, hat⟩ := hd.dictAt
  have hl : kvs.length = ys.length := Paired.length rk
  have hlt : ts.length = ys.length := by
    have := congrArg List.length hts
    rw [List.length_map, List.length_map] at this
    omega
  have hfs : ∀ c, s.heap.objs.size ≤ c → c ∉ frs X.stack := fun c hc z => by
    rcases List.mem_cons.mp (I.stkSub c z) with e | e
    · exact absurd I.lt (by rw [← e]; exact Nat.not_lt.mpr hc)
    · exact I.nofs hc e
  have hr1 : Room k X.A.in1.in1 := Room.in1 (Room.in1 hr)
  have at_ : ∀ (i : Nat) (v : Value), (∃ k x, ys[i]? = some (k, x) ∧ (mixKind X.prog X.w).is k v = true) → ∀ x, ts[i]? = some x → RelV (.str x) v := fun i v ⟨ky, y, hy, hi⟩ x hx => by
    have e1 : (kvs.map (·.1))[i]? = some ky := by
      rw [KV.keys rk, List.getElem?_map, hy] <;> rfl
    rw [hts, List.getElem?_map, hx] at e1
    cases e1
    exact keyIs_rel (k := .inr x) (v := v) hi
  refine sk_sortedD (kz := ts.map (keyD F)) (fs := frs X.stack) (kdl_dict (knd := mixKind X.prog X.w) (kvs := ys) (ep := ep) lo) (I.ok.hd hc) hat (by omega) I.bare (by rw [List.length_map, hlt]) hfs (alike_kps _) (sortable_kps _) (fun d hd => ?_) (fun i v kp hv hkp s' T => ?_) fun s' p vs out c hp hvl hvs T at2 ko => ?_
  · obtain ⟨b, _, rfl⟩ := List.mem_map.mp hd
    rw [depth_kp]
    have := hr1.units
    omega
  · rw [List.getElem?_map] at hkp
    cases hx : ts[i]? with
    | none => rw [hx] at hkp; cases hkp
    | some x =>
      rw [hx] at hkp
      cases hkp
      obtain ⟨kp, e⟩ := Option.isSome_iff_exists.mp (hkey x (List.mem_of_getElem? hx))
      have e2 : keyD F x = kp := by unfold keyD; rw [e]; rfl
      rw [e2]
      exact sk_turn I FN hr1 hgd hb hpm T (at_ i v hv x hx) e
  · have ea : EachIs (fun u x => RelV (.str x) u) vs ts := each_of (by omega) fun j v x h1 h2 => at_ j v (hvs j v h1) x h2
    have ko1 : EachIs (fun u x => RelV (.str x) u) out (sortK F ts) := keyedOut_each (fun x => kpD (keyD F x)) (by rw [List.map_map] at ko; exact ko) ea
    have hn : H p = none := I.hok.fresh hp
    have ne : ∀ b u, H b = some u → b ≠ p := fun b u e z => by rw [z, hn] at e; cases e
    have un : Un (frs X.stack) [] H (upd H p (.lst ((sortK F ts).map V.str))) s.heap s'.heap :=
      ⟨fun b o e _ hb _ => T.kf.keep b o hb e, fun b o e _ _ _ => T.kf.slot b o e, fun b o e n _ => by rw [upd_ne (fun z => absurd (Heap.lt_size e) (by rw [z]; exact Nat.not_lt.mpr hp))]; exact n, fun b o e _ => ⟨_, (T.kf.slot b o e).choose_spec⟩,
        fun b xs e => by rw [upd_ne (ne b _ e)]; exact e, fun b o u e => by rw [upd_ne (ne b _ e)]; exact e, fun b ps e => ⟨#[], by rw [upd_ne (ne b _ e), e]; simp⟩⟩
    have hok : HOk X.prog X.w (upd H p (.lst ((sortK F ts).map V.str))) s'.heap := fun b u e => by
      by_cases hb : b = p
      · subst hb
        rw [upd_same] at e
        cases e
        exact ⟨by rw [List.length_map]; unfold sortK; rw [List.length_mergeSort]; exact hz, out, c, vals_each ko1, at2⟩
      · rw [upd_ne hb] at e
        refine (I.hok b u e).stay (fun c v hc g => T.kf.keep c v (fun z => ?_) g) (fun c g => by rw [upd_ne (ne c _ g)]; exact g) fun c xs g => by rw [upd_ne (ne c _ g)]; exact g
        have f := I.stkFree c z
        rcases hc with hc | hc
        · rw [hc, e] at f; cases f
        · rw [hc] at f; cases f
    exact ⟨.ref _, _, I.call' (ch := []) T.os un hok T.bare (fun _ z => nomatch z), rfl, Qh _ hn⟩
end
/-- sorted({..}, key=f): a new list -/
def eSortKD (F : FS) (f : Rho → R D) : Rho → R D := fun r => (f r).bind fun d r1 => match d with
  | .dict ds => match strsOf (ds.map (·.1)) with
    | some ss => if ss.length ≤ sizeLine ∧ ∀ x ∈ ss, (keyOfF F x).isSome = true then .ok (.list ((sortK F ss).map .str)) r1 else .bad
    | none => .bad
  | _ => .bad
theorem kd_str {K : PySem.W.Frag} {M : Hp} : ∀ {kvs : List (Key × V)} {ds : List (D × D)} {ss : List Str}, RepKV K M kvs ds → ds.map (·.1) = ss.map PyData.str → kvs.map (·.1) = ss.map Sum.inr
  | _, _, [], .nil, _ => rfl
  | _, _, _ :: _, .nil, h => by simp at h
  | _, _, [], .cons _ _, h => by simp at h
  | _, _, x :: ss, .cons (k := ky) _ t, h => by
    rw [List.map_cons, List.map_cons] at h
    have h1 := (List.cons.inj h).1
    have h2 := (List.cons.inj h).2
    rw [List.map_cons, List.map_cons, kd_str t h2]
    cases ky with
    | inl i => cases h1
    | inr y =>
      have : y = x := by injection h1
      rw [this]
section
variable {X : Cx} {W : WX} {ms pm : Ms} {k j : Nat} {F : FS} {x pn : Str} {p p2 pos kp : Pos} {e : Expr} {f : Rho → R D}
theorem ceo_sortKD (h : Ok X.prog X.w X.K X.mg X.base j x [pn] pm .pur 1 F) (hr : Room k X.A) (hgd : X.A.guards = some []) (hj : j + 2 ≤ k) (hpm : (pm 0).sh = .pur) (ha : CEo X W ms .dk e f) (hms : X.mg "sorted" = none) (hc : X.calm = true := by rfl) (hg : Gl X "sorted" := by rfl) (hgx : Gl X x := by rfl) (hdb : (x == ("__debug__" : Str)) = false := by decide) (na : starEach [e] X.env = (false, eval e X.env) :: starEach [] X.env := by rfl)
    (he : backTo pos (starEach [e] X.env) = (false, eval e X.env) :: backTo pos (starEach [] X.env) := by rfl) (hpl : (backTo pos (starEach [e] X.env)).any (·.1) = false := by rfl)
    (hall : (backToKw pos (keywordEach [⟨some (Str.ofString "key"), .Name x p2, kp⟩] X.env)).all (·.1.isSome) = true := by rfl) (hnone : (backToKw pos (keywordEach [⟨some (Str.ofString "key"), .Name x p2, kp⟩] X.env)).any (·.1.isNone) = false := by rfl) (hks : (backToKw pos (keywordEach [⟨some (Str.ofString "key"), .Name x p2, kp⟩] X.env)).filterMap (·.1) = [Str.ofString "key"] := by rfl) :
    CEo X W ms .lst (.Call (.Name "sorted" p) [e] [⟨some (Str.ofString "key"), .Name x p2, kp⟩] pos) (eSortKD F f) := by
  obtain ⟨fd, h1, h2, h3, h4⟩ := h
  have hr2 : Room (j + 2) X.A := hr.mono hj
  refine (pe_callBK (cr_sortKD hc h4 hr2 hgd h3 hpm) hg hms (by rfl) (pa_cons ha pa_nil na) (pk_cons (pe_glob hgx h1 (show RelV (.ref _) (.ref _) from rfl) hdb) pk_nil) (by decide) (by decide) he hpl hall hnone hks).weak fun σ H Q ⟨r, O, G, R, h⟩ => ?_
  unfold eSortKD at h
  rw [on_bind] at h
  refine tEo_step R h fun d r' v H' O' B a1 R1 E1 nB rs => ?_
  cases d with
  | dict ds =>
    cases rs with
    | dk hk rkv =>
      rename_i a kvs
      dsimp only at a1
      split at a1
      · rename_i ss es
        split at a1
        · rename_i hcond
          have Rf := R1.free
          refine ⟨a, kvs, ss, rfl, rfl, hk, kd_str rkv (strsOf_eq es), hcond.1, hcond.2, fun q hq => ?_⟩
          obtain ⟨R2, E2, nn, rs2⟩ := own_new Rf hq (repStrs (K := X.K) (H := msk H' (Ow O' G)) (sortK F ss))
          exact a1 _ _ O' [q] R2 ((ext_free E1).trans E2) nn rs2
        · exact False.elim a1
      · exact False.elim a1
  | _ => exact False.elim a1
end
@[simp] theorem v_eSortKD (F : FS) (f : Rho → R D) (r : Rho) : eSortKD F f r = (f r).bind fun d r1 => match d with
  | .dict ds => match strsOf (ds.map (·.1)) with
    | some ss => if ss.length ≤ sizeLine ∧ ∀ x ∈ ss, (keyOfF F x).isSome = true then .ok (.list ((sortK F ss).map .str)) r1 else .bad
    | none => .bad
  | _ => .bad := Eq.trans rfl rfl
end DL
end

section
namespace Lw
open PySem PySem.Spec PyProof.Rows L2 DL
def tab_ShiftError : List (Str × Bool) := [("BadNumber", true), ("NotWord", true)]
def is_NotWord : List (Str × Bool) := [("BadNumber", false), ("NotWord", true)]
def is_BadNumber : List (Str × Bool) := [("BadNumber", true), ("NotWord", false)]
/-! check_size(k 0) -/
abbrev pl_check_size : List Md := [{ sh := .pur, fx := false }]
abbrev pm_check_size : Ms := msOf pl_check_size
abbrev ms_check_size : Ms := msOf (pl_check_size ++ [])
def g_check_size : Rho → SR := (sIf (tNot (tBool (eChain dLe dLe (oVal (eCst (.int 2))) (oVal (eVar 0)) (oVal (eCall cLen (aCons (oVal (eCst (.str "abcdef"))) aNil)))))) (sRaise "BadNumber") sNil)
def F_check_size : FS := bodyF pm_check_size 1 0 g_check_size

/-! has_letters(k 0, word 1, letter 2) -/
abbrev pl_has_letters : List Md := [{ sh := .pur, fx := false }, { sh := .pur, fx := false }]
abbrev pm_has_letters : Ms := msOf pl_has_letters
abbrev ms_has_letters : Ms := msOf (pl_has_letters ++ [{ sh := .pur, fx := false }])
abbrev b_has_letters_1 : Rho → R D := (eBin dIn (oVal (eVar 2)) (oVal (eSl (oVal (eCst (.str "abcdef"))) pNone (pSome (eVar 0)))))
def g_has_letters : Rho → SR := (sRet (eCall cAll (aCons (oVal (eComp [2] (iAny (eVar 1)) (kName 2) tYesR b_has_letters_1)) aNil)))
def F_has_letters : FS := bodyF pm_has_letters 2 1 g_has_letters

/-! key_of(word 0) -/
abbrev pl_key_of : List Md := [{ sh := .pur, fx := false }]
abbrev pm_key_of : Ms := msOf pl_key_of
abbrev ms_key_of : Ms := msOf (pl_key_of ++ [])
def g_key_of : Rho → SR := (sRet (eTup (aCons (oVal (eCall cLen (aCons (oVal (eVar 0)) aNil))) (aCons (oVal (eVar 0)) aNil))))
def F_key_of : FS := bodyF pm_key_of 1 0 g_key_of

/-! common(one 0, other 1, size 2) -/
abbrev pl_common : List Md := [{ sh := .pur, fx := false }, { sh := .pur, fx := false }]
abbrev pm_common : Ms := msOf pl_common
abbrev ms_common : Ms := msOf (pl_common ++ [{ sh := .pur, fx := false }])
noncomputable abbrev b_common_1 : Rho → R Bool := (tAnd (tBool (eBin dLt (oVal (eVar 2)) (oVal (eCall cMin (aCons (oVal (eCall cLen (aCons (oVal (eVar 0)) aNil))) (aCons (oVal (eCall cLen (aCons (oVal (eVar 1)) aNil))) aNil)))))) (tBool (eBin dEq (oVal (eBin dIx (oVal (eVar 0)) (oVal (eVar 2)))) (oVal (eBin dIx (oVal (eVar 1)) (oVal (eVar 2)))))))
noncomputable abbrev b_common_2 : Rho → SR := (sAug 2 dAdd (oVal (eCst (.int 1))))
noncomputable def g_common : Rho → SR := (sSeq (sSet 2 (eCst (.int 0)))
  (sSeq (sWhile b_common_1 b_common_2)
  (sRet (eSl (oVal (eVar 0)) pNone (pSome (eVar 2))))))
noncomputable def F_common : FS := bodyF pm_common 2 1 g_common

/-! _law_number(_law_cell 0) -/
abbrev pl__law_number : List Md := [{ sh := .pur, fx := false }]
abbrev pm__law_number : Ms := msOf pl__law_number
abbrev ms__law_number : Ms := msOf (pl__law_number ++ [])
def g__law_number : Rho → SR := (sSeq (sIf (tBool (eBin dLt (oVal (eVar 0)) (oVal (eCst (.int 0))))) (sRet (eBin dSub (oVal (eCst (.int 0))) (oVal (eVar 0)))) sNil)
  (sRet (eVar 0)))
def F__law_number : FS := bodyF pm__law_number 1 0 g__law_number

/-! _law_next(_law_draws_here 0) -/
abbrev pl__law_next : List Md := [{ sh := .lst, fx := true }]
abbrev pm__law_next : Ms := msOf pl__law_next
abbrev ms__law_next : Ms := msOf (pl__law_next ++ [])
def g__law_next : Rho → SR := (sSeq (sIf (tTru (oSlot 0)) (sRet (eMut 0 mPop aNil)) sNil)
  (sRet (eCst (.int 0))))
def F__law_next : FS := bodyF pm__law_next 1 0 g__law_next

/-! _law_is_word(_law_k 0, _law_word 1, _law_letter 2) -/
abbrev pl__law_is_word : List Md := [{ sh := .pur, fx := false }, { sh := .pur, fx := false }]
abbrev pm__law_is_word : Ms := msOf pl__law_is_word
abbrev ms__law_is_word : Ms := msOf (pl__law_is_word ++ [{ sh := .pur, fx := false }])
abbrev b__law_is_word_1 : Rho → R D := (eBin dIn (oVal (eVar 2)) (oVal (eSl (oVal (eCst (.str "abcdef"))) pNone (pSome (eVar 0)))))
def g__law_is_word : Rho → SR := (sRet (eAnd (eBin dLt (oVal (eCall cLen (aCons (oVal (eVar 1)) aNil))) (oVal (eCst (.int 61)))) (eCall cAll (aCons (oVal (eComp [2] (iAny (eVar 1)) (kName 2) tYesR b__law_is_word_1)) aNil))))
def F__law_is_word : FS := bodyF pm__law_is_word 2 1 g__law_is_word

/-! _law_place(_law_word 0) -/
abbrev pl__law_place : List Md := [{ sh := .pur, fx := false }]
abbrev pm__law_place : Ms := msOf pl__law_place
abbrev ms__law_place : Ms := msOf (pl__law_place ++ [])
def g__law_place : Rho → SR := (sRet (eTup (aCons (oVal (eCall cLen (aCons (oVal (eVar 0)) aNil))) (aCons (oVal (eVar 0)) aNil))))
def F__law_place : FS := bodyF pm__law_place 1 0 g__law_place

/-! _law_listed(_law_k 0, _law_length 1, _law_words 2, _law_j 3, _law_longer 4, _law_word 5, _law_letter 6) -/
abbrev pl__law_listed : List Md := [{ sh := .pur, fx := false }, { sh := .pur, fx := false }]
abbrev pm__law_listed : Ms := msOf pl__law_listed
abbrev ms__law_listed : Ms := msOf (pl__law_listed ++ [{ sh := .pur, fx := false }, { sh := .pur, fx := false }, { sh := .pur, fx := false }, { sh := .pur, fx := false }, { sh := .pur, fx := false }])
abbrev b__law_listed_1 : Rho → R D := (eBin dAdd4 (oVal (eVar 5)) (oVal (eVar 6)))
abbrev b__law_listed_2 : Rho → SR := (sSet 4 (eBin dAdd4 (oVal (eVar 4)) (oVal (eComp [6] (iAny (eSl (oVal (eCst (.str "abcdef"))) pNone (pSome (eVar 0)))) (kName 6) tYesR b__law_listed_1))))
abbrev b__law_listed_3 : Rho → SR := (sSeq (sSet 4 (eLst aNil))
  (sSeq (sFor (iAny (eVar 2)) (kName 5) b__law_listed_2)
  (sSet 2 (eVar 4))))
def g__law_listed : Rho → SR := (sSeq (sSet 2 (eLst (aCons (oVal (eCst (.str ""))) aNil)))
  (sSeq (sFor (iRng1 (aCons (oVal (eVar 1)) aNil)) (kName 3) b__law_listed_3)
  (sRet (eVar 2))))
def F__law_listed : FS := bodyF pm__law_listed 2 5 g__law_listed

/-! letters_of(k 0) -/
abbrev pl_letters_of : List Md := [{ sh := .pur, fx := false }]
abbrev pm_letters_of : Ms := msOf pl_letters_of
abbrev ms_letters_of : Ms := msOf (pl_letters_of ++ [])
def g_letters_of : Rho → SR := (sSeq (sExpr (eFn F_check_size [.e (eVar 0)]))
  (sRet (eSl (oVal (eCst (.str "abcdef"))) pNone (pSome (eVar 0)))))
def F_letters_of : FS := bodyF pm_letters_of 1 0 g_letters_of

/-! is_word(k 0, word 1) -/
abbrev pl_is_word : List Md := [{ sh := .pur, fx := false }, { sh := .pur, fx := false }]
abbrev pm_is_word : Ms := msOf pl_is_word
abbrev ms_is_word : Ms := msOf (pl_is_word ++ [])
def g_is_word : Rho → SR := (sSeq (sExpr (eFn F_check_size [.e (eVar 0)]))
  (sRet (eAnd (eBin dLe (oVal (eCall cLen (aCons (oVal (eVar 1)) aNil))) (oVal (eCst (.int (60))))) (eFn F_has_letters [.e (eVar 0), .e (eVar 1)]))))
def F_is_word : FS := bodyF pm_is_word 2 0 g_is_word

/-! words_of_length(k 0, length 1, words 2, _ 3, word 4, letter 5) -/
abbrev pl_words_of_length : List Md := [{ sh := .pur, fx := false }, { sh := .pur, fx := false }]
abbrev pm_words_of_length : Ms := msOf pl_words_of_length
abbrev ms_words_of_length : Ms := msOf (pl_words_of_length ++ [{ sh := .pur, fx := false }, { sh := .pur, fx := false }, { sh := .pur, fx := false }, { sh := .pur, fx := false }])
abbrev b_words_of_length_1 : Rho → R (List D) := (iAny (eSl (oVal (eCst (.str "abcdef"))) pNone (pSome (eVar 0))))
abbrev b_words_of_length_2 : Rho → R D := (eBin dAdd4 (oVal (eVar 4)) (oVal (eVar 5)))
abbrev b_words_of_length_3 : Rho → SR := (sSeq (sSet 2 (eComp2 [4, 5] [5] (iAny (eVar 2)) (kName 4) tYesR b_words_of_length_1 (kName 5) tYesR b_words_of_length_2))
  (sIf (tBool (eBin dGt (oVal (eCall cLen (aCons (oVal (eVar 2)) aNil))) (oVal (eCst (.int (4096)))))) (sRaise "BadNumber") sNil))
def g_words_of_length : Rho → SR := (sSeq (sExpr (eFn F_check_size [.e (eVar 0)]))
  (sSeq (sIf (tNot (tBool (eChain dLe dLe (oVal (eCst (.int 0))) (oVal (eVar 1)) (oVal (eCst (.int 12)))))) (sRaise "BadNumber") sNil)
  (sSeq (sSet 2 (eLst (aCons (oVal (eCst (.str ""))) aNil)))
  (sSeq (sFor (iRng1 (aCons (oVal (eVar 1)) aNil)) (kName 3) b_words_of_length_3)
  (sRet (eVar 2))))))
def F_words_of_length : FS := bodyF pm_words_of_length 2 4 g_words_of_length

/-! _law_draws(_law_script 0, _law_draws_here 1, _law_cell 2, _law_rest 3, _law_k 4, _law_once 5, _law_twice 6) -/
abbrev pl__law_draws : List Md := [{ sh := .pur, fx := false }]
abbrev pm__law_draws : Ms := msOf pl__law_draws
abbrev ms__law_draws : Ms := msOf (pl__law_draws ++ [{ sh := .pur, fx := false }, { sh := .pur, fx := false }, { sh := .pur, fx := false }, { sh := .pur, fx := false }, { sh := .pur, fx := false }, { sh := .pur, fx := false }])
abbrev b__law_draws_1 : Rho → SR := (sSeq (sIf (tBool (eBin dEq (oVal (eVar 3)) (oVal (eCst (.int 0))))) sBreak sNil)
  (sSeq (sExpr (eMut 1 mAppend (aCons (oVal (eBin dMod (oVal (eCall cInt (aCons (oVal (eVar 3)) aNil))) (oVal (eCst (.int 1000))))) aNil)))
  (sSet 3 (eBin dFdiv (oVal (eVar 3)) (oVal (eCst (.int 1000)))))))
abbrev b__law_draws_2 : Rho → SR := (sSeq (sSet 3 (eFn F__law_number [.e (eVar 2)]))
  (sIf (tBool (eBin dGe (oVal (eVar 3)) (oVal (eCst (.int 1000000000000000000))))) (sFor (iRng1 (aCons (oVal (eCst (.int 60))) aNil)) (kName 4) b__law_draws_1) (sSeq (sSet 5 (eBin dMod (oVal (eCall cInt (aCons (oVal (eBin dAdd4 (oVal (eBin dMul5 (oVal (eVar 3)) (oVal (eCst (.int 48271))))) (oVal (eCst (.int 11))))) aNil))) (oVal (eCst (.int 2147483647)))))
  (sSeq (sSet 6 (eBin dMod (oVal (eCall cInt (aCons (oVal (eBin dAdd4 (oVal (eBin dMul5 (oVal (eVar 5)) (oVal (eCst (.int 69621))))) (oVal (eVar 3)))) aNil))) (oVal (eCst (.int 2147483629)))))
  (sExpr (eMut 1 mExtend (aCons (oVal (eLst (aCons (oVal (eBin dMod (oVal (eCall cInt (aCons (oVal (eVar 3)) aNil))) (oVal (eCst (.int 1000))))) (aCons (oVal (eBin dMod (oVal (eCall cInt (aCons (oVal (eVar 5)) aNil))) (oVal (eCst (.int 1000))))) (aCons (oVal (eBin dMod (oVal (eCall cInt (aCons (oVal (eVar 6)) aNil))) (oVal (eCst (.int 1000))))) aNil))))) aNil)))))))
def g__law_draws : Rho → SR := (sThw 1 (sSeq (sSet 1 (eLst aNil))
  (sSeq (sFor (iAny (eVar 0)) (kName 2) b__law_draws_2)
  (sRet (eMv 1)))))
def F__law_draws : FS := bodyF pm__law_draws 1 6 g__law_draws

/-! _law_string(_law_draws_here 0, _law_k 1, _law_most 2, _law_signs 3, _law_j 4) -/
abbrev pl__law_string : List Md := [{ sh := .lst, fx := true }, { sh := .pur, fx := false }, { sh := .pur, fx := false }]
abbrev pm__law_string : Ms := msOf pl__law_string
abbrev ms__law_string : Ms := msOf (pl__law_string ++ [{ sh := .pur, fx := false }, { sh := .pur, fx := false }])
abbrev b__law_string_1 : Rho → R D := (eBin dIx (oVal (eVar 3)) (oVal (eBin dMod (oVal (eCall cInt (aCons (oVal (eFn F__law_next [.s 0])) aNil))) (oVal (eCall cLen (aCons (oVal (eVar 3)) aNil))))))
def g__law_string : Rho → SR := (sSeq (sSet 3 (eBin dAdd4 (oVal (eSl (oVal (eCst (.str "abcdef"))) pNone (pSome (eVar 1)))) (oVal (eBin dIx (oVal (eLst (aCons (oVal (eCst (.str ""))) (aCons (oVal (eCst (.str "abcdefgA# -"))) aNil)))) (oVal (eCall cInt (aCons (oVal (eBin dEq (oVal (eBin dMod (oVal (eCall cInt (aCons (oVal (eFn F__law_next [.s 0])) aNil))) (oVal (eCst (.int 6))))) (oVal (eCst (.int 1))))) aNil)))))))
  (sRet (eMeth "str" mJoin (oVal (eCst (.str ""))) (aCons (oVal (eComp [4] (iRng1 (aCons (oVal (eBin dMod (oVal (eCall cInt (aCons (oVal (eFn F__law_next [.s 0])) aNil))) (oVal (eBin dAdd4 (oVal (eVar 2)) (oVal (eCst (.int 1))))))) aNil)) (kName 4) tYesR b__law_string_1)) aNil))))
def F__law_string : FS := bodyF pm__law_string 3 2 g__law_string

/-! check_word(k 0, word 1) -/
abbrev pl_check_word : List Md := [{ sh := .pur, fx := false }, { sh := .pur, fx := false }]
abbrev pm_check_word : Ms := msOf pl_check_word
abbrev ms_check_word : Ms := msOf (pl_check_word ++ [])
def g_check_word : Rho → SR := (sIf (tNot (tTru (oVal (eFn F_is_word [.e (eVar 0), .e (eVar 1)])))) (sRaise "NotWord") sNil)
def F_check_word : FS := bodyF pm_check_word 2 0 g_check_word

/-! is_before(k 0, one 1, other 2) -/
abbrev pl_is_before : List Md := [{ sh := .pur, fx := false }, { sh := .pur, fx := false }, { sh := .pur, fx := false }]
abbrev pm_is_before : Ms := msOf pl_is_before
abbrev ms_is_before : Ms := msOf (pl_is_before ++ [])
def g_is_before : Rho → SR := (sSeq (sExpr (eFn F_check_word [.e (eVar 0), .e (eVar 1)]))
  (sSeq (sExpr (eFn F_check_word [.e (eVar 0), .e (eVar 2)]))
  (sRet (eBin dLt2 (oVal (eFn F_key_of [.e (eVar 1)])) (oVal (eFn F_key_of [.e (eVar 2)]))))))
def F_is_before : FS := bodyF pm_is_before 3 0 g_is_before

/-! in_order(words 0, word 1) -/
abbrev pl_in_order : List Md := [{ sh := .pur, fx := false }]
abbrev pm_in_order : Ms := msOf pl_in_order
abbrev ms_in_order : Ms := msOf (pl_in_order ++ [{ sh := .pur, fx := false }])
abbrev b_in_order_1 : Rho → R D := (eVar 1)
abbrev b_in_order_2 : Rho → R D := (eCst (.bool true))
def g_in_order : Rho → SR := (sRet (eSortKD F_key_of (eDcomp false [1] (iAny (eVar 0)) (kName 1) tYesR b_in_order_1 b_in_order_2)))
def F_in_order : FS := bodyF pm_in_order 1 1 g_in_order

/-! _law_told(_law_way 0, _law_k 1, _law_one 2, _law_other 3, error 4) -/
abbrev pl__law_told : List Md := [{ sh := .pur, fx := false }, { sh := .pur, fx := false }, { sh := .pur, fx := false }, { sh := .pur, fx := false }]
abbrev pm__law_told : Ms := msOf pl__law_told
abbrev ms__law_told : Ms := msOf (pl__law_told ++ [{ sh := .pur, fx := false }])
abbrev b__law_told_1 : Rho → SR := (sSeq (sIf (tBool (eBin dEq (oVal (eVar 0)) (oVal (eCst (.int 0))))) (sRet (eTup (aCons (oVal (eCst (.str "told"))) (aCons (oVal (eFn F_letters_of [.e (eVar 1)])) aNil)))) sNil)
  (sSeq (sIf (tBool (eBin dEq (oVal (eVar 0)) (oVal (eCst (.int 1))))) (sRet (eTup (aCons (oVal (eCst (.str "told"))) (aCons (oVal (eFn F_is_word [.e (eVar 1), .e (eVar 2)])) aNil)))) sNil)
  (sSeq (sIf (tBool (eBin dEq (oVal (eVar 0)) (oVal (eCst (.int 2))))) (sRet (eTup (aCons (oVal (eCst (.str "told"))) (aCons (oVal (eFn F_check_word [.e (eVar 1), .e (eVar 2)])) aNil)))) sNil)
  (sSeq (sIf (tBool (eBin dEq (oVal (eVar 0)) (oVal (eCst (.int 3))))) (sRet (eTup (aCons (oVal (eCst (.str "told"))) (aCons (oVal (eFn F_is_before [.e (eVar 1), .e (eVar 2), .e (eVar 3)])) aNil)))) sNil)
  (sRet (eTup (aCons (oVal (eCst (.str "told"))) (aCons (oVal (eFn F_words_of_length [.e (eVar 1), .e (eVar 2)])) aNil))))))))
def g__law_told : Rho → SR := (sTryAs 4 tab_ShiftError b__law_told_1 (fun c_ => (sRet (eTup (aCons (oVal (eCst (.str "refused"))) (aCons (oVal (eLst (aCons (oVal (eCall cInt (aCons (oVal (eIsE 4 c_ is_BadNumber)) aNil))) (aCons (oVal (eCall cInt (aCons (oVal (eIsE 4 c_ is_NotWord)) aNil))) aNil)))) aNil))))))
def F__law_told : FS := bodyF pm__law_told 4 1 g__law_told

/-! law(_law_script 0, _law_draws_here 1, _law_k 2, _law_one 3, _law_other 4, _law_wrong 5, _law_way 6, _law_right 7, _law_due 8, _law_length 9, _law_some 10, _law_word 11, _law_size 12, _law_sign 13, _law_j 14) -/
abbrev pl_law : List Md := [{ sh := .pur, fx := false }]
abbrev pm_law : Ms := msOf pl_law
abbrev ms_law : Ms := msOf (pl_law ++ [{ sh := .pur, fx := false }, { sh := .pur, fx := false }, { sh := .pur, fx := false }, { sh := .pur, fx := false }, { sh := .pur, fx := false }, { sh := .pur, fx := false }, { sh := .pur, fx := false }, { sh := .pur, fx := false }, { sh := .pur, fx := false }, { sh := .pur, fx := false }, { sh := .pur, fx := false }, { sh := .pur, fx := false }, { sh := .pur, fx := false }, { sh := .pur, fx := false }])
noncomputable abbrev b_law_1 : Rho → SR := (sIf (tBool (eBin dNe (oVal (eFn F__law_told [.e (eVar 6), .e (eVar 5), .e (eBin dIx (oVal (eLst (aCons (oVal (eVar 3)) (aCons (oVal (eCst (.int 2))) aNil)))) (oVal (eCall cInt (aCons (oVal (eBin dEq (oVal (eVar 6)) (oVal (eCst (.int 4))))) aNil)))), .e (eVar 4)])) (oVal (eTup (aCons (oVal (eCst (.str "refused"))) (aCons (oVal (eLst (aCons (oVal (eCst (.int 1))) (aCons (oVal (eCst (.int 0))) aNil)))) aNil)))))) (sRet (eCst (.bool false))) sNil)
noncomputable abbrev b_law_2 : Rho → R D := (eBin dIn (oVal (eVar 13)) (oVal (eCst (.str "abcdef"))))
noncomputable abbrev b_law_3 : Rho → R Bool := (tTru (oVal (eCall cAll (aCons (oVal (eComp [13] (iAny (eVar 11)) (kName 13) tYesR b_law_2)) aNil))))
noncomputable abbrev b_law_4 : Rho → R D := (eVar 11)
noncomputable abbrev b_law_5 : Rho → SR := (sIf (tBool (eBin dNotIn (oVal (eVar 11)) (oSlot 8))) (sExpr (eMut 8 mAppend (aCons (oVal (eVar 11)) aNil))) sNil)
noncomputable abbrev b_law_6 : Rho → R Bool := (tBool (eBin dEq (oVal (eSl (oVal (eVar 3)) pNone (pSome (eBin dAdd4 (oVal (eVar 14)) (oVal (eCst (.int 1))))))) (oVal (eSl (oVal (eVar 4)) pNone (pSome (eBin dAdd4 (oVal (eVar 14)) (oVal (eCst (.int 1)))))))))
noncomputable abbrev b_law_7 : Rho → R D := (eVar 14)
noncomputable def g_law : Rho → SR := (sThw 1 (sSeq (sSet 1 (eFn F__law_draws [.e (eVar 0)]))
  (sSeq (sExpr (eMut 1 mReverse aNil))
  (sSeq (sSet 2 (eBin dAdd4 (oVal (eCst (.int 2))) (oVal (eBin dMod (oVal (eCall cInt (aCons (oVal (eFn F__law_next [.s 1])) aNil))) (oVal (eCst (.int 5)))))))
  (sSeq (sSet 3 (eFn F__law_string [.s 1, .e (eVar 2), .e (eCst (.int 6))]))
  (sSeq (sSet 4 (eBin dIx (oVal (eLst (aCons (oVal (eFn F__law_string [.s 1, .e (eVar 2), .e (eCst (.int 6))])) (aCons (oVal (eBin dAdd4 (oVal (eVar 3)) (oVal (eBin dIx (oVal (eCst (.str "ab"))) (oVal (eBin dMod (oVal (eCall cInt (aCons (oVal (eFn F__law_next [.s 1])) aNil))) (oVal (eCst (.int 2))))))))) (aCons (oVal (eVar 3)) aNil))))) (oVal (eBin dMod (oVal (eCall cInt (aCons (oVal (eFn F__law_next [.s 1])) aNil))) (oVal (eCst (.int 3)))))))
  (sSeq (sIf (tBool (eBin dEq (oVal (eBin dMod (oVal (eCall cInt (aCons (oVal (eFn F__law_next [.s 1])) aNil))) (oVal (eCst (.int 8))))) (oVal (eCst (.int 1))))) (sSet 3 (eBin dAdd4 (oVal (eBin dMul5 (oVal (eCst (.str "ab"))) (oVal (eCst (.int 30))))) (oVal (eSl (oVal (eVar 3)) pNone (pSome (eCst (.int 1))))))) sNil)
  (sSeq (sSet 5 (eBin dIx (oVal (eLst (aCons (oVal (eCst (.int 7))) (aCons (oVal (eCst (.int 1))) (aCons (oVal (eCst (.int 0))) (aCons (oVal (eNeg (eCst (.int 1)))) aNil)))))) (oVal (eBin dMod (oVal (eCall cInt (aCons (oVal (eFn F__law_next [.s 1])) aNil))) (oVal (eCst (.int 4)))))))
  (sSeq (sFor (iRng1 (aCons (oVal (eCst (.int 5))) aNil)) (kName 6) b_law_1)
  (sSeq (sSet 7 (eLst (aCons (oVal (eFn F__law_is_word [.e (eVar 2), .e (eVar 3)])) (aCons (oVal (eFn F__law_is_word [.e (eVar 2), .e (eVar 4)])) aNil))))
  (sSeq (sSet 8 (eBin dIx (oVal (eLst (aCons (oVal (eTup (aCons (oVal (eCst (.str "refused"))) (aCons (oVal (eLst (aCons (oVal (eCst (.int 0))) (aCons (oVal (eCst (.int 1))) aNil)))) aNil)))) (aCons (oVal (eTup (aCons (oVal (eCst (.str "told"))) (aCons (oVal (eCst .none)) aNil)))) aNil)))) (oVal (eCall cInt (aCons (oVal (eBin dIx (oVal (eVar 7)) (oVal (eCst (.int 0))))) aNil)))))
  (sSeq (sIf (tOr (tBool (eBin dNe (oVal (eFn F__law_told [.e (eCst (.int 0)), .e (eVar 2), .e (eVar 3), .e (eVar 4)])) (oVal (eTup (aCons (oVal (eCst (.str "told"))) (aCons (oVal (eSl (oVal (eCst (.str "abcdef"))) pNone (pSome (eVar 2)))) aNil)))))) (tBool (eBin dNe (oVal (eCall cRepr (aCons (oVal (eFn F__law_told [.e (eCst (.int 2)), .e (eVar 2), .e (eVar 3), .e (eVar 4)])) aNil))) (oVal (eCall cRepr (aCons (oVal (eVar 8)) aNil)))))) (sRet (eCst (.bool false))) sNil)
  (sSeq (sIf (tBool (eBin dNe (oVal (eCall cRepr (aCons (oVal (eFn F__law_told [.e (eCst (.int 1)), .e (eVar 2), .e (eVar 3), .e (eVar 4)])) aNil))) (oVal (eCall cRepr (aCons (oVal (eTup (aCons (oVal (eCst (.str "told"))) (aCons (oVal (eBin dIx (oVal (eVar 7)) (oVal (eCst (.int 0))))) aNil)))) aNil))))) (sRet (eCst (.bool false))) sNil)
  (sSeq (sSet 8 (eTup (aCons (oVal (eCst (.str "refused"))) (aCons (oVal (eLst (aCons (oVal (eCst (.int 0))) (aCons (oVal (eCst (.int 1))) aNil)))) aNil))))
  (sSeq (sIf (tAnd (tTru (oVal (eBin dIx (oVal (eVar 7)) (oVal (eCst (.int 0)))))) (tTru (oVal (eBin dIx (oVal (eVar 7)) (oVal (eCst (.int 1))))))) (sSet 8 (eTup (aCons (oVal (eCst (.str "told"))) (aCons (oVal (eBin dLt2 (oVal (eFn F__law_place [.e (eVar 3)])) (oVal (eFn F__law_place [.e (eVar 4)])))) aNil)))) sNil)
  (sSeq (sIf (tBool (eBin dNe (oVal (eCall cRepr (aCons (oVal (eFn F__law_told [.e (eCst (.int 3)), .e (eVar 2), .e (eVar 3), .e (eVar 4)])) aNil))) (oVal (eCall cRepr (aCons (oVal (eVar 8)) aNil))))) (sRet (eCst (.bool false))) sNil)
  (sSeq (sSet 9 (eBin dMod (oVal (eCall cInt (aCons (oVal (eFn F__law_next [.s 1])) aNil))) (oVal (eCst (.int 4)))))
  (sSeq (sIf (tBool (eBin dNe (oVal (eCall cRepr (aCons (oVal (eFn F__law_told [.e (eCst (.int 4)), .e (eVar 2), .e (eVar 9), .e (eCst (.str ""))])) aNil))) (oVal (eCall cRepr (aCons (oVal (eTup (aCons (oVal (eCst (.str "told"))) (aCons (oVal (eFn F__law_listed [.e (eVar 2), .e (eVar 9)])) aNil)))) aNil))))) (sRet (eCst (.bool false))) sNil)
  (sSeq (sIf (tOr (tBool (eBin dNe (oVal (eFn F__law_told [.e (eCst (.int 4)), .e (eVar 2), .e (eNeg (eCst (.int 1))), .e (eCst (.str ""))])) (oVal (eTup (aCons (oVal (eCst (.str "refused"))) (aCons (oVal (eLst (aCons (oVal (eCst (.int 1))) (aCons (oVal (eCst (.int 0))) aNil)))) aNil)))))) (tBool (eBin dNe (oVal (eFn F__law_told [.e (eCst (.int 4)), .e (eVar 2), .e (eCst (.int 13)), .e (eCst (.str ""))])) (oVal (eTup (aCons (oVal (eCst (.str "refused"))) (aCons (oVal (eLst (aCons (oVal (eCst (.int 1))) (aCons (oVal (eCst (.int 0))) aNil)))) aNil))))))) (sRet (eCst (.bool false))) sNil)
  (sSeq (sSet 10 (eLst (aCons (oVal (eVar 3)) (aCons (oVal (eVar 4)) (aCons (oVal (eSl (oVal (eVar 3)) pNone (pSome (eCst (.int 2))))) (aCons (oVal (eBack (oVal (eVar 4)))) (aCons (oVal (eVar 3)) (aCons (oVal (eCst (.str "ff"))) aNil))))))))
  (sSeq (sSet 10 (eComp [11] (iAny (eVar 10)) (kName 11) b_law_3 b_law_4))
  (sThw 8 (sSeq (sSet 8 (eLst aNil))
  (sSeq (sFor (iAny (eCallL (cSortK F__law_place) (aCons (oVal (eVar 10)) aNil))) (kName 11) b_law_5)
  (sFrz 8 (sSeq (sIf (tBool (eBin dNe (oVal (eCall cRepr (aCons (oVal (eFn F_in_order [.e (eCallL cListA (aCons (oVal (eVar 10)) aNil))])) aNil))) (oVal (eCall cRepr (aCons (oVal (eVar 8)) aNil))))) (sRet (eCst (.bool false))) sNil)
  (sSeq (sSet 12 (eCall cLen (aCons (oVal (eComp [14] (iRng1 (aCons (oVal (eCall cMin (aCons (oVal (eCall cLen (aCons (oVal (eVar 3)) aNil))) (aCons (oVal (eCall cLen (aCons (oVal (eVar 4)) aNil))) aNil)))) aNil)) (kName 14) b_law_6 b_law_7)) aNil)))
  (sRet (eBin dEq (oVal (eFn F_common [.e (eVar 3), .e (eVar 4)])) (oVal (eSl (oVal (eVar 3)) pNone (pSome (eVar 12)))))))))))))))))))))))))))))))))
noncomputable def F_law : FS := bodyF pm_law 1 14 g_law
end Lw
end

section
namespace Lw
open PySem PySem.Spec PyProof.Rows L2 DL TL
theorem number_ex (i : Int) : ∃ n, F__law_number [.int i] = .ok (.int n) [none] ∧ 0 ≤ n := by
  by_cases h : i < 0
  · exact ⟨0 - i, body_ok (r := [some (.int i)]) (by simp [g__law_number, dLt, dOrd, dSub, h]), by omega⟩
  · exact ⟨i, body_ok (r := [some (.int i)]) (by simp [g__law_number, dLt, dOrd, dSub, h]), by omega⟩
theorem next_eq (ds : List Int) (g : Good ds) : ∃ d es, F__law_next [ilD ds] = .ok (.int d) [some (ilD es)] ∧ 0 ≤ d ∧ d < 1000 ∧ Good es ∧ es.length ≤ ds.length := by
  by_cases h : ds = []
  · subst h
    exact ⟨0, [], rfl, by omega, by omega, g, Nat.le_refl _⟩
  · obtain ⟨es, d, rfl⟩ : ∃ es d, ds = es ++ [d] := ⟨ds.dropLast, ds.getLast h, (List.dropLast_concat_getLast h).symm⟩
    have hd := g d (by simp)
    refine ⟨d, es, body_ok (r := [some (ilD es)]) ?_, hd.1, hd.2, fun x hx => g x (by simp [hx]), by simp⟩
    simp [g__law_next, tru, mPop]
/-- the inner turns of the draws -/
def JIn (L : Nat) (x : D) (n : Nat) (r : Rho) : Prop := ∃ ds c rest k o t, r = [some x, some (ilD ds), c, some (.int rest), k, o, t] ∧ 0 ≤ rest ∧ Good ds ∧ ds.length + n ≤ L
def BIn (L : Nat) (x : D) (r : Rho) : Prop := ∃ ds c rest k o t, r = [some x, some (ilD ds), c, some (.int rest), k, o, t] ∧ Good ds ∧ ds.length ≤ L
def JOut (x : D) (n : Nat) (r : Rho) : Prop := ∃ ds c rest k o t, r = [some x, some (ilD ds), c, rest, k, o, t] ∧ Good ds ∧ ds.length + 60 * n ≤ 4000
theorem draws_eq (ns : List Int) (h : ns.length ≤ 63) : ∃ ds, F__law_draws [ilD ns] = .ok (ilD ds) [none] ∧ Good ds := by
  have hs := size_eq
  have key := forE_invN (k := kName 2) (s := b__law_draws_2) (JOut (ilD ns)) (fun d => ∃ i, d = .int i) (by
    rintro n d r ⟨i, rfl⟩ ⟨ds, c, rest, k, o, t, rfl, g, hl⟩
    refine ⟨_, rfl, ?_⟩
    have i1 := i64_a
    have i2 := i64_b
    have m := m_bd
    obtain ⟨N, number_eq, hN⟩ := number_ex i
    by_cases hb : (1000000000000000000 : Int) ≤ N
    · obtain ⟨r', e, b⟩ := forE_invB (k := kName 4) (s := b__law_draws_1) (JIn (ds.length + 60) (ilD ns)) (BIn (ds.length + 60) (ilD ns)) (fun d => ∃ i, d = .int i) (by
          rintro r ⟨ds, c, rest, k, o, t, rfl, _, g, hl⟩
          exact ⟨ds, c, rest, k, o, t, rfl, g, hl⟩) (by
          rintro n' d' r ⟨i', rfl⟩ ⟨ds', c', rest', k', o', t', rfl, h0, g', hl'⟩
          refine ⟨_, rfl, ?_⟩
          by_cases hz : rest' = 0
          · refine ⟨[some (ilD ns), some (ilD ds'), c', some (.int rest'), some (.int i'), o', t'], .inr ⟨?_, ds', c', rest', _, o', t', rfl, g', by omega⟩⟩
            subst hz
            simp [dEq, dEqv]
          · refine ⟨[some (ilD ns), some (ilD (ds' ++ [rest' % 1000])), c', some (.int (rest' / 1000)), some (.int i'), o', t'], .inl ⟨.inl ?_, ds' ++ [rest' % 1000], c', rest' / 1000, _, o', t', rfl, Int.ediv_nonneg h0 (by decide), good_app g' (good_one (m _).1 (m _).2), by simp; omega⟩⟩
            simp [dEq, dEqv, hz, cInt, dMod, mAppend, dFdiv]
            rw [if_pos (by omega)]
            simp [dFdiv]) (rngD 0 60) [some (ilD ns), some (ilD ds), some (.int i), some (.int N), k, o, t] (fun d hd => by obtain ⟨i, _, rfl⟩ := rngD_mem hd; exact ⟨_, rfl⟩) ⟨ds, _, _, _, _, _, rfl, by omega, g, by rw [rngD_len]; omega⟩
      obtain ⟨ds2, c2, rest2, k2, o2, t2, rfl, g2, hl2⟩ := b
      refine ⟨[some (ilD ns), some (ilD ds2), c2, some (.int rest2), k2, o2, t2], .inl ?_, ds2, c2, some (.int rest2), k2, o2, t2, rfl, g2, by omega⟩
      have i3 := inR_60
      have eg := dGe_yes hb
      simp [number_eq, eg, i3]
      simpa using e
    · obtain ⟨o1, e1, _, _⟩ := dMod_ex (N * 48271 + 11) 2147483647 (by decide)
      obtain ⟨o2, e2, _, _⟩ := dMod_ex (o1 * 69621 + N) 2147483629 (by decide)
      obtain ⟨a, e3, h3, h3'⟩ := dMod_ex N 1000 (by decide)
      obtain ⟨b, e4, h4, h4'⟩ := dMod_ex o1 1000 (by decide)
      obtain ⟨c, e5, h5, h5'⟩ := dMod_ex o2 1000 (by decide)
      refine ⟨[some (ilD ns), some (ilD (ds ++ [a, b, c])), some (.int i), some (.int N), k, some (.int o1), some (.int o2)], .inl ?_, ds ++ [a, b, c], _, _, _, _, _, rfl, good_app g ?_, by simp; omega⟩
      rotate_left
      · intro x hx
        simp only [List.mem_cons, List.not_mem_nil, or_false] at hx
        rcases hx with rfl | rfl | rfl <;> exact ⟨by assumption, by assumption⟩
      have hq : ds.length + 3 ≤ sizeLine := by omega
      have h3 : 3 ≤ sizeLine := by omega
      have eg := dGe_no hb
      simp [number_eq, eg, i1, i2, cInt, dMul5_int, dMul, mExtend, h3, hq, e1, e2, e3, e4, e5]) (ns.map .int) [some (ilD ns), some (ilD []), none, none, none, none, none] 0 (fun d hd => by obtain ⟨i, _, rfl⟩ := List.mem_map.mp hd; exact ⟨i, rfl⟩) ⟨[], _, _, _, _, _, rfl, fun x hx => by simp at hx, by simp; omega⟩
  obtain ⟨r', e, ds, c, rest, k, o, t, rfl, g, hl⟩ := key
  refine ⟨ds, body_ok (r := [some (ilD ns), none, c, rest, k, o, t]) ?_, g⟩
  simp [g__law_draws]
  simp only [ilD] at e
  rw [show (PyData.list (List.map PyData.int [])) = PyData.list [] from rfl] at e
  rw [e]
  simp
end Lw
end

section
namespace Lw
open PySem PySem.Spec PyProof.Rows L2 DL TL
/-! letters, words, rules -/
def sizeOk (k : Int) : Bool := decide (2 ≤ k) && decide (k ≤ 6)
theorem check_size_eq (k : Int) : F_check_size [.int k] = if sizeOk k = true then .ok .none [none] else .exc "BadNumber" .none [none] := by
  unfold sizeOk
  by_cases h1 : 2 ≤ k
  · by_cases h2 : k ≤ 6
    · rw [decide_eq_true h1, decide_eq_true h2]
      exact body_nx (r := [some (.int k)]) (by simp [g_check_size, dLe_int, h1, h2, cl6])
    · rw [decide_eq_true h1, decide_eq_false h2]
      exact body_exc (r := [some (.int k)]) (by simp [g_check_size, dLe_int, h1, h2, cl6])
  · rw [decide_eq_false h1]
    exact body_exc (r := [some (.int k)]) (by simp [g_check_size, dLe_int, h1, cl6])
theorem check_size_bad {k : Int} (h : sizeOk k = false) : F_check_size [.int k] = .exc "BadNumber" .none [none] := by rw [check_size_eq, h]; rfl
theorem check_size_ok {k : Int} (h : sizeOk k = true) : F_check_size [.int k] = .ok .none [none] := by rw [check_size_eq, h]; rfl
theorem has_step (k : Int) (c : Nat) (x : Option D) : b_has_letters_1 [some (.int k), x, some (sgn c)] = .ok (.bool (lts k c)) [some (.int k), x, some (sgn c)] := by
  have e := dIn_sgn c (cutS "abcdef" none (some k))
  have ez := sl_ab k
  have e : dIn (sgn c) (.str (cutS "abcdef" none (some k))) = some (.bool (lts k c)) := e
  generalize cutS "abcdef" none (some k) = z at *
  simp [ez, e]
theorem has_letters_eq (k : Int) (l : List Nat) (hl : l.length ≤ 100000) : F_has_letters [.int k, lst l] = .ok (.bool (l.all (lts k))) [none, none] := by
  have ec := compL_mapG (vs := [2]) (k := kName 2) (t := tYesR) (f := b_has_letters_1) sgn (fun c => .bool (lts k c)) [some (.int k), some (lst l), none] l [] (fun c _ => ⟨_, rfl, rfl, has_step k c _, rfl⟩) (by simp; rw [size_eq]; omega)
  have ea := cAll_mapG (lts k) l
  simp only [List.nil_append] at ec
  refine body_ok (r := [some (.int k), some (lst l), none]) ?_
  simp [g_has_letters, ec, ea]
def wordOk (k : Int) (l : List Nat) : Bool := decide (l.length ≤ 60) && l.all (lts k)
theorem is_word_eq (k : Int) (l : List Nat) (hl : l.length ≤ 100000) : F_is_word [.int k, lst l] = if sizeOk k = true then .ok (.bool (wordOk k l)) [none, none] else .exc "BadNumber" .none [none, none] := by
  cases hk : sizeOk k with
  | false =>
    have e := check_size_bad hk
    exact body_exc (r := [some (.int k), some (lst l)]) (by simp [g_is_word, e])
  | true =>
    have e := check_size_ok hk
    have e2 := has_letters_eq k l hl
    have e3 := cLen_l l (by omega)
    refine body_ok (r := [some (.int k), some (lst l)]) ?_
    unfold wordOk
    by_cases h6 : l.length ≤ 60
    · have h6' : (l.length : Int) ≤ 60 := by omega
      simp [g_is_word, e, e2, e3, dLe_int, h6, h6', tru]
    · have h6' : ¬ (l.length : Int) ≤ 60 := by omega
      simp [g_is_word, e, e2, e3, dLe_int, h6, h6', tru]
theorem check_word_eq (k : Int) (l : List Nat) (hl : l.length ≤ 100000) : F_check_word [.int k, lst l] = if sizeOk k = true then (if wordOk k l = true then .ok .none [none, none] else .exc "NotWord" .none [none, none]) else .exc "BadNumber" .none [none, none] := by
  have e := is_word_eq k l hl
  cases hk : sizeOk k with
  | false =>
    rw [hk] at e
    have e : F_is_word [.int k, lst l] = .exc "BadNumber" .none [none, none] := e
    exact body_exc (r := [some (.int k), some (lst l)]) (by simp [g_check_word, e])
  | true =>
    rw [hk] at e
    have e : F_is_word [.int k, lst l] = .ok (.bool (wordOk k l)) [none, none] := e
    cases hw : wordOk k l with
    | true =>
      rw [hw] at e
      exact body_nx (r := [some (.int k), some (lst l)]) (by simp [g_check_word, e, tru])
    | false =>
      rw [hw] at e
      exact body_exc (r := [some (.int k), some (lst l)]) (by simp [g_check_word, e, tru])
/-! places and rules: any texts -/
abbrev asc (p : List Nat) : Bool := decide (p.Pairwise (· < ·))
def isPl (k : Int) (p : List Nat) : Bool := !p.isEmpty && (p.all (lts k) && asc p)
theorem dNe_nil (p : List Nat) : dNe (lst p) (.str "") = some (.bool !p.isEmpty) := by
  have e := dNe_ll p []
  have : decide (p = []) = p.isEmpty := by cases p <;> rfl
  rw [this] at e
  exact e
theorem scan_eq : scanBound = 4096 := rfl
/-- a place stands as it may -/
def isAt (k edge at_ : Int) (p : List Nat) : Bool := isPl k p || (decide (p = [35]) && decide (at_ = edge))
def arePl (k edge : Int) (ps : List (List Nat)) : Bool := decide (ps.length ≤ 2) && (ps.mapIdx fun i p => isAt k edge (i : Nat) p).all id
abbrev plD (ps : List (List Nat)) : D := .tuple (ps.map lst)
def PlFine (ps : List (List Nat)) : Prop := ps.length ≤ 1000 ∧ ∀ p ∈ ps, p.length ≤ 1000 ∧ ∀ c ∈ p, c < 128
theorem bools_idx (p : List Nat → Nat → Bool) : ∀ (ps : List (List Nat)) , bools (ps.mapIdx fun i x => .bool (p x i)) = some (ps.mapIdx fun i x => p x i) := by
  intro ps
  have : (ps.mapIdx fun i x => PyData.bool (p x i)) = (ps.mapIdx fun i x => p x i).map PyData.bool := by apply List.ext_getElem?; intro i; simp [List.getElem?_mapIdx, List.getElem?_map, Option.map_map]; rfl
  rw [this]
  have := bools_mapG (fun b : Bool => b) (ps.mapIdx fun i x => p x i)
  simpa using this
theorem compL_mapIdx {vs : List Nat} {kk : D → Rho → Option Rho} {f : Rho → R D} {ι : Type} (j : Nat → ι → D) (m : Nat → ι → D) (r : Rho) : ∀ (xs : List ι) (n : Nat) (acc : List D), (∀ i x, x ∈ xs → ∃ r1, kk (j i x) r = some r1 ∧ f r1 = .ok (m i x) r1 ∧ wipeR r1 vs = r) → acc.length + xs.length ≤ sizeLine →
    compL vs kk tYesR f (xs.mapIdx fun i x => j (n + i) x) r acc = .ok (acc ++ xs.mapIdx fun i x => m (n + i) x) r
  | [], _, acc, _, _ => by simp
  | x :: xs, n, acc, hp, hl => by
    obtain ⟨r1, e1, e3, e4⟩ := hp n x List.mem_cons_self
    rw [List.length_cons] at hl
    rw [List.mapIdx_cons, List.mapIdx_cons, c_cons]
    have ih := compL_mapIdx j m r xs (n + 1) (acc ++ [m n x]) (fun i y hy => hp i y (List.mem_cons_of_mem _ hy)) (by rw [List.length_append]; simp only [List.length_cons, List.length_nil]; omega)
    simp only [Nat.add_zero]
    rw [e1]
    simp only [v_yes, noX_ok, bind_ok, if_true, e3]
    rw [if_pos (by omega), e4]
    have c1 : (fun i x => j (n + (i + 1)) x) = fun i x => j (n + 1 + i) x := by funext i x; rw [Nat.add_right_comm]; rfl
    have c2 : (fun i x => m (n + (i + 1)) x) = fun i x => m (n + 1 + i) x := by funext i x; rw [Nat.add_right_comm]; rfl
    rw [c1, c2, ih]
    simp
structure Rule where
  letter : List Nat
  new : List Nat
  left : List (List Nat)
  right : List (List Nat)
abbrev ruleD (r : Rule) : D := .tuple [lst r.letter, lst r.new, plD r.left, plD r.right]
def TxFine (l : List Nat) : Prop := l.length ≤ 1000 ∧ ∀ c ∈ l, c < 128
structure RuFine (r : Rule) : Prop where
  letter : TxFine r.letter
  new : TxFine r.new
  left : PlFine r.left
  right : PlFine r.right
def oneL (k : Int) (l : List Nat) : Bool := match l with
  | [c] => lts k c
  | _ => false
def isRu (k : Int) (r : Rule) : Bool := (oneL k r.letter && (decide (r.new.length ≤ 3) && r.new.all (lts k))) && (arePl k 0 r.left && arePl k ((r.right.length : Int) - 1) r.right)
abbrev rulesD (rs : List Rule) : D := .tuple (rs.map ruleD)
def RusFine (rs : List Rule) : Prop := rs.length ≤ 1000 ∧ ∀ r ∈ rs, RuFine r
def areRu (k : Int) (rs : List Rule) : Bool := decide (rs.length ≤ 8) && rs.all (isRu k)
end Lw
end

section
set_option maxHeartbeats 400000
namespace Lw
open PySem PySem.Spec PyProof.Rows L2 DL TL
/-! what is told -/
def rfD (a b : Int) : D := .tuple [.str "refused", .list [.int a, .int b]]
def tlD (v : D) : D := .tuple [.str "told", v]
section
variable {K A B V : D}
theorem t0_ok (h : F_letters_of [K] = .ok V [none]) : F__law_told [.int 0, K, A, B] = .ok (tlD V) [none, none, none, none] := by
  have z2 : 2 ≤ sizeLine := by decide
  refine body_ok (r := [some (.int 0), some K, some A, some B, none]) ?_
  simp [g__law_told, dEq_int, h, z2, tlD]
theorem t1_ok (h : F_is_word [K, A] = .ok V [none, none]) : F__law_told [.int 1, K, A, B] = .ok (tlD V) [none, none, none, none] := by
  have z2 : 2 ≤ sizeLine := by decide
  refine body_ok (r := [some (.int 1), some K, some A, some B, none]) ?_
  simp [g__law_told, dEq_int, h, z2, tlD]
theorem t2_ok (h : F_check_word [K, A] = .ok V [none, none]) : F__law_told [.int 2, K, A, B] = .ok (tlD V) [none, none, none, none] := by
  have z2 : 2 ≤ sizeLine := by decide
  refine body_ok (r := [some (.int 2), some K, some A, some B, none]) ?_
  simp [g__law_told, dEq_int, h, z2, tlD]
theorem t3_ok (h : F_is_before [K, A, B] = .ok V [none, none, none]) : F__law_told [.int 3, K, A, B] = .ok (tlD V) [none, none, none, none] := by
  have z2 : 2 ≤ sizeLine := by decide
  refine body_ok (r := [some (.int 3), some K, some A, some B, none]) ?_
  simp [g__law_told, dEq_int, h, z2, tlD]
theorem t4_ok (h : F_words_of_length [K, A] = .ok V [none, none]) : F__law_told [.int 4, K, A, B] = .ok (tlD V) [none, none, none, none] := by
  have z2 : 2 ≤ sizeLine := by decide
  refine body_ok (r := [some (.int 4), some K, some A, some B, none]) ?_
  simp [g__law_told, dEq_int, h, z2, tlD]
theorem told_b {w : Int} (h : b__law_told_1 [some (.int w), some K, some A, some B, none] = .exc "BadNumber" .none [some (.int w), some K, some A, some B, none]) : F__law_told [.int w, K, A, B] = .ok (rfD 1 0) [none, none, none, none] := by
  have ht : tab_ShiftError.lookup ("BadNumber" : Str) = some true := rfl
  have z2 : 2 ≤ sizeLine := by decide
  have i1 : is_BadNumber.lookup ("BadNumber" : Str) = some true := rfl
  have i2 : is_NotWord.lookup ("BadNumber" : Str) = some false := rfl
  have c1 : cInt [.bool true] = some (.int 1) := rfl
  have c0 : cInt [.bool false] = some (.int 0) := rfl
  refine body_ok (r := [some (.int w), some K, some A, some B, none]) ?_
  unfold g__law_told rfD
  generalize b__law_told_1 = BT at *
  simp [h, ht, excV, i1, i2, c1, c0, z2]
theorem told_w {w : Int} (h : b__law_told_1 [some (.int w), some K, some A, some B, none] = .exc "NotWord" .none [some (.int w), some K, some A, some B, none]) : F__law_told [.int w, K, A, B] = .ok (rfD 0 1) [none, none, none, none] := by
  have ht : tab_ShiftError.lookup ("NotWord" : Str) = some true := rfl
  have z2 : 2 ≤ sizeLine := by decide
  have i1 : is_BadNumber.lookup ("NotWord" : Str) = some false := rfl
  have i2 : is_NotWord.lookup ("NotWord" : Str) = some true := rfl
  have c1 : cInt [.bool true] = some (.int 1) := rfl
  have c0 : cInt [.bool false] = some (.int 0) := rfl
  refine body_ok (r := [some (.int w), some K, some A, some B, none]) ?_
  unfold g__law_told rfD
  generalize b__law_told_1 = BT at *
  simp [h, ht, excV, i1, i2, c1, c0, z2]
theorem t0_x {x : Str} (h : F_letters_of [K] = .exc x .none [none]) : b__law_told_1 [some (.int 0), some K, some A, some B, none] = .exc x .none [some (.int 0), some K, some A, some B, none] := by
  simp [dEq_int, h]
theorem t1_x {x : Str} (h : F_is_word [K, A] = .exc x .none [none, none]) : b__law_told_1 [some (.int 1), some K, some A, some B, none] = .exc x .none [some (.int 1), some K, some A, some B, none] := by
  simp [dEq_int, h]
theorem t2_x {x : Str} (h : F_check_word [K, A] = .exc x .none [none, none]) : b__law_told_1 [some (.int 2), some K, some A, some B, none] = .exc x .none [some (.int 2), some K, some A, some B, none] := by
  simp [dEq_int, h]
theorem t3_x {x : Str} (h : F_is_before [K, A, B] = .exc x .none [none, none, none]) : b__law_told_1 [some (.int 3), some K, some A, some B, none] = .exc x .none [some (.int 3), some K, some A, some B, none] := by
  simp [dEq_int, h]
theorem t4_x {x : Str} (h : F_words_of_length [K, A] = .exc x .none [none, none]) : b__law_told_1 [some (.int 4), some K, some A, some B, none] = .exc x .none [some (.int 4), some K, some A, some B, none] := by
  simp [dEq_int, h]
end
/-! drawn strings -/
theorem sg_k {k : Int} (h2 : 2 ≤ k) (h6 : k ≤ 6) (b : Bool) : ∃ sg : List Nat, 2 ≤ sg.length ∧ sg.length ≤ 17 ∧ (∀ c ∈ sg, c < 128) ∧ ∃ (i : Int) (z : D), cInt [.bool b] = some (.int i) ∧ dIx (.list [.str "", .str "abcdefgA# -"]) (.int i) = some z ∧ dAdd4 (.str (cutS "abcdef" none (some k))) z = some (lst sg) := by
  have kk : k = 2 ∨ k = 3 ∨ k = 4 ∨ k = 5 ∨ k = 6 := by omega
  rcases kk with rfl | rfl | rfl | rfl | rfl <;> cases b
  · exact ⟨[97, 98], by decide, by decide, by decide, 0, _, rfl, rfl, by rfl⟩
  · exact ⟨[97, 98, 97, 98, 99, 100, 101, 102, 103, 65, 35, 32, 45], by decide, by decide, by decide, 1, _, rfl, rfl, by rfl⟩
  · exact ⟨[97, 98, 99], by decide, by decide, by decide, 0, _, rfl, rfl, by rfl⟩
  · exact ⟨[97, 98, 99, 97, 98, 99, 100, 101, 102, 103, 65, 35, 32, 45], by decide, by decide, by decide, 1, _, rfl, rfl, by rfl⟩
  · exact ⟨[97, 98, 99, 100], by decide, by decide, by decide, 0, _, rfl, rfl, by rfl⟩
  · exact ⟨[97, 98, 99, 100, 97, 98, 99, 100, 101, 102, 103, 65, 35, 32, 45], by decide, by decide, by decide, 1, _, rfl, rfl, by rfl⟩
  · exact ⟨[97, 98, 99, 100, 101], by decide, by decide, by decide, 0, _, rfl, rfl, by rfl⟩
  · exact ⟨[97, 98, 99, 100, 101, 97, 98, 99, 100, 101, 102, 103, 65, 35, 32, 45], by decide, by decide, by decide, 1, _, rfl, rfl, by rfl⟩
  · exact ⟨[97, 98, 99, 100, 101, 102], by decide, by decide, by decide, 0, _, rfl, rfl, by rfl⟩
  · exact ⟨[97, 98, 99, 100, 101, 102, 97, 98, 99, 100, 101, 102, 103, 65, 35, 32, 45], by decide, by decide, by decide, 1, _, rfl, rfl, by rfl⟩
theorem string_eq (ds : List Int) (g : Good ds) (k m : Int) (hk : 2 ≤ k) (hk' : k ≤ 6) (h0 : 0 ≤ m) (h1 : m ≤ 50) : ∃ l es, F__law_string [ilD ds, .int k, .int m] = .ok (lst l) [some (ilD es), none, none] ∧ Good es ∧ (l.length : Int) ≤ m ∧ ∀ c ∈ l, c < 128 := by
  obtain ⟨d0, e0, q0, _, _, g0, _⟩ := next_eq ds g
  obtain ⟨n6, q6, _, _⟩ := dMod_ex d0 6 (by decide)
  have eq6 := dEq_int n6 1
  obtain ⟨sg, s2, s17, hsg, i6, z, ci6, ix6, ad⟩ := sg_k hk hk' (decide (n6 = 1))
  have sl := sl_ab k
  have cl := cLen_l sg (by omega)
  obtain ⟨d1, e1, q1, _, _, g1, _⟩ := next_eq e0 g0
  obtain ⟨n, q2, n0, n1⟩ := dMod_ex d1 (m + 1) (by omega)
  have hR := inR_s (j := n) n0 (by omega)
  obtain ⟨ys, r', q3, ⟨e2, rfl, g2⟩, hy, hlen⟩ := compL_inv (vs := [4]) (k := kName 4) (t := tYesR) (f := b__law_string_1) (fun r => ∃ e2, r = [some (ilD e2), some (.int k), some (.int m), some (lst sg), none] ∧ Good e2) (fun d => ∃ i, d = .int i) (fun y => ∃ c, y = sgn c ∧ c < 128) (by
    rintro d r ⟨i, rfl⟩ ⟨e2, rfl, g⟩
    obtain ⟨d3, e3, p1, _, _, g3, _⟩ := next_eq e2 g
    obtain ⟨k3, p2, b0, b1⟩ := dMod_ex d3 (sg.length : Int) (by omega)
    have p3 := ix_sg sg k3.toNat (by omega) (by rw [size_eq]; omega)
    rw [Int.toNat_of_nonneg b0] at p3
    refine ⟨_, rfl, _, rfl, sgn (sg.getD k3.toNat 0), [some (ilD e3), some (.int k), some (.int m), some (lst sg), some (.int i)], ?_, ⟨_, rfl, hsg _ (getD_mem (by omega) 0)⟩, e3, rfl, g3⟩
    have ci : ∀ i, cInt [.int i] = some (.int i) := fun i => rfl
    generalize lst sg = SG at *
    generalize ((sg.length : Nat) : Int) = SL at *
    simp [p1, ci, cl, p2, p3]) (rngD 0 n.toNat) [some (ilD e1), some (.int k), some (.int m), some (lst sg), none] [] (fun d hd => by obtain ⟨i, _, rfl⟩ := rngD_mem hd; exact ⟨_, rfl⟩) ⟨e1, rfl, g1⟩ (fun y h => by simp at h) (by rw [rngD_len, size_eq]; simp; omega)
  obtain ⟨cs, rfl, hc⟩ := all_sgnP _ ys hy
  have hcl : cs.length = n.toNat := by
    rw [rngD_len, List.length_map] at hlen
    simpa using hlen
  have hj := mJoin_sgn cs (by omega)
  have hty : tyD "str" (.str "") = true := rfl
  have ci : ∀ i, cInt [.int i] = some (.int i) := fun i => rfl
  have ad1 : dAdd4 (.int m) (.int 1) = some (.int (m + 1)) := rfl
  have z2 : 2 ≤ sizeLine := by decide
  refine ⟨cs, e2, ?_, g2, by omega, hc⟩
  refine body_ok (r := [some (ilD e2), some (.int k), some (.int m), some (lst sg), none]) ?_
  generalize cutS "abcdef" none (some k) = CK at *
  generalize lst sg = SG at *
  generalize decide (n6 = 1) = b6 at *
  simp [g__law_string, sl, q0, ci, q6, eq6, ci6, ix6, ad, q1, ad1, q2, hR, q3, hj, hty, z2]
/-! words of a length -/
def extW (n : Nat) (w : List Nat) : List (List Nat) := (List.range n).map fun i => w ++ [97 + i]
def rgW (n : Nat) : Nat → List (List Nat)
  | 0 => [[]]
  | L + 1 => (rgW n L).flatMap (extW n)
theorem rg_len (n : Nat) : ∀ L, (rgW n L).length = n ^ L
  | 0 => rfl
  | L + 1 => by
    have fl : ∀ l : List (List Nat), (l.flatMap (extW n)).length = l.length * n := fun l => by
      induction l with
      | nil => simp
      | cons w l ih => rw [List.flatMap_cons, List.length_append, ih, List.length_cons, Nat.succ_mul]; unfold extW; rw [List.length_map, List.length_range]; omega
    show ((rgW n L).flatMap (extW n)).length = _
    rw [fl, rg_len n L, Nat.pow_succ]
theorem rg_mem (n : Nat) : ∀ L, ∀ w ∈ rgW n L, w.length = L
  | 0, w, h => by rw [List.mem_singleton.mp h]; rfl
  | L + 1, w, h => by
    obtain ⟨u, hu, hw⟩ := List.mem_flatMap.mp h
    obtain ⟨i, _, rfl⟩ := List.mem_map.mp hw
    rw [List.length_append, rg_mem n L u hu]; rfl
section
variable {k : Int}
theorem wl_ring (hk : 2 ≤ k) (hk' : k ≤ 6) (L : Option D) (ring : List (List Nat)) (hw : ∀ w ∈ ring, w.length ≤ 10) (hl : ring.length ≤ 10000) (v3 : Option D) :
    ∃ r', compO [4, 5] [5] (kName 4) tYesR b_words_of_length_1 (kName 5) tYesR b_words_of_length_2 (ring.map lst) [some (.int k), L, some (.list (ring.map lst)), v3, none, none] [] = .ok ((ring.flatMap (extW k.toNat)).map lst) r' ∧ wipeR r' [4, 5] = [some (.int k), L, some (.list (ring.map lst)), v3, none, none] := by
  have sl := sl_ab k
  have ct := cut_k hk hk'
  obtain ⟨r', e, h⟩ := compO_flat (vs := [4, 5]) (vs1 := [5]) (k := kName 4) (k1 := kName 5) (i1 := b_words_of_length_1) (f := b_words_of_length_2) lst (fun w => (extW k.toNat w).map lst) 6 [some (.int k), L, some (.list (ring.map lst)), v3, none, none] ring [some (.int k), L, some (.list (ring.map lst)), v3, none, none] [] rfl (fun w hwm acc hacc => by
    obtain ⟨r2, e2, h2⟩ := compI_map (vs := [5]) (k := kName 5) (f := b_words_of_length_2) (fun i : Nat => sgn (97 + i)) (fun i => lst (w ++ [97 + i])) [some (.int k), L, some (.list (ring.map lst)), v3, some (lst w), none] (List.range k.toNat) [some (.int k), L, some (.list (ring.map lst)), v3, some (lst w), none] acc rfl (fun i hi => ⟨[some (.int k), L, some (.list (ring.map lst)), v3, some (lst w), some (sgn (97 + i))], rfl, by
        have a : dAdd4 (lst w) (sgn (97 + i)) = some (lst (w ++ [97 + i])) := dAdd4_l w [97 + i] (by have := hw w hwm; rw [size_eq]; simp; omega)
        generalize sgn (97 + i) = S at *
        generalize lst (w ++ [97 + i]) = Z at *
        generalize lst w = Y at *
        simp [a], rfl⟩) (by rw [List.length_range]; omega)
    refine ⟨by unfold extW; rw [List.length_map, List.length_map, List.length_range]; omega, [some (.int k), L, some (.list (ring.map lst)), v3, some (lst w), none], (List.range k.toNat).map fun i => sgn (97 + i), rfl, ?_, r2, ?_, ?_⟩
    · have hm : (tl (cutS "abcdef" none (some k))).map sgn = (List.range k.toNat).map fun i => sgn (97 + i) := by rw [ct, List.map_map]; rfl
      rw [← hm]
      generalize cutS "abcdef" none (some k) = z at *
      generalize lst w = Y at *
      simp [sl]
    · rw [e2]; unfold extW; rw [List.map_map]; rfl
    · rcases h2 with h2 | h2
      · rw [h2]; rfl
      · have : wipeR r2 [4, 5] = (wipeR r2 [5]).set 4 none := rfl
        rw [this, h2]; rfl) (by rw [size_eq]; simp; omega)
  refine ⟨r', ?_, h⟩
  rw [e, List.nil_append, List.map_flatMap]
end
section
variable {k : Int}
theorem wl_step {K L v3 : Option D} {RG RG2 : List D} {n : Int} {r' : Rho} (c : compO [4, 5] [5] (kName 4) tYesR b_words_of_length_1 (kName 5) tYesR b_words_of_length_2 RG [K, L, some (.list RG), v3, none, none] [] = .ok RG2 r') (h : wipeR r' [4, 5] = [K, L, some (.list RG), v3, none, none])
    (cl : cLen [.list RG2] = some (.int n)) (gt : dGt (.int n) (.int 4096) = some (.bool false)) : b_words_of_length_3 [K, L, some (.list RG), v3, none, none] = .nx [K, L, some (.list RG2), v3, none, none] := by
  have h : (r'.set 5 none).set 4 none = [K, L, some (.list RG), v3, none, none] := h
  simp [c, h, cl, gt]
theorem rg_few (hk : 2 ≤ k) (hk' : k ≤ 6) {L : Nat} (hL : L ≤ 3) : (rgW k.toNat L).length ≤ 216 := by
  rw [rg_len]
  exact Nat.le_trans (Nat.pow_le_pow_left (show k.toNat ≤ 6 by omega) L) (Nat.le_trans (Nat.pow_le_pow_right (by decide) hL) (by decide))
theorem wl_loop (hk : 2 ≤ k) (hk' : k ≤ 6) (L : Option D) : ∀ (t j : Nat) (v3 : Option D), j + t ≤ 3 →
    ∃ w3, forE (kName 3) b_words_of_length_3 ((List.range' j t).map fun i : Nat => PyData.int (i : Int)) [some (.int k), L, some (.list ((rgW k.toNat j).map lst)), v3, none, none] = .nx [some (.int k), L, some (.list ((rgW k.toNat (j + t)).map lst)), w3, none, none]
  | 0, j, v3, _ => ⟨v3, rfl⟩
  | t + 1, j, v3, hj => by
    have f1 := rg_few hk hk' (L := j) (by omega)
    have f2 := rg_few hk hk' (L := j + 1) (by omega)
    obtain ⟨r', c, h⟩ := wl_ring hk hk' L (rgW k.toNat j) (fun w hw => by rw [rg_mem _ _ w hw]; omega) (by omega) (some (.int (j : Int)))
    have cl : cLen [.list (((rgW k.toNat j).flatMap (extW k.toNat)).map lst)] = some (.int (((rgW k.toNat (j + 1)).length : Nat) : Int)) := by rw [cLen_li, List.length_map]; rfl
    have gt : dGt (.int (((rgW k.toNat (j + 1)).length : Nat) : Int)) (.int 4096) = some (.bool false) := by rw [dGt_int, decide_eq_false (by omega)]
    have st := wl_step c h cl gt
    obtain ⟨w3, ih⟩ := wl_loop hk hk' L t (j + 1) (some (.int (j : Int))) (by omega)
    refine ⟨w3, ?_⟩
    rw [List.range'_succ, List.map_cons]
    refine (forE_nx (r1 := [some (.int k), L, some (.list ((rgW k.toNat j).map lst)), some (.int (j : Int)), none, none]) rfl st).trans ?_
    rw [show j + 1 + t = j + (t + 1) by omega] at ih
    exact ih
theorem wl_core {n : Int} {RG R : List D} {w3 : Option D} (cs : F_check_size [.int k] = .ok .none [none]) (h0 : 0 ≤ n) (h1 : n ≤ 12) (hR : DL.inR n = true) (er : rngD 0 n.toNat = R) (fe : forE (kName 3) b_words_of_length_3 R [some (.int k), some (.int n), some (.list [.str ""]), none, none, none] = .nx [some (.int k), some (.int n), some (.list RG), w3, none, none]) : F_words_of_length [.int k, .int n] = .ok (.list RG) [none, none] := by
  have l0 : dLe (.int 0) (.int n) = some (.bool true) := by rw [dLe_int, decide_eq_true h0]
  have l1 : dLe (.int n) (.int 12) = some (.bool true) := by rw [dLe_int, decide_eq_true h1]
  have z1 : 1 ≤ sizeLine := by decide
  refine body_ok (r := [some (.int k), some (.int n), some (.list RG), w3, none, none]) ?_
  simp [g_words_of_length, cs, l0, l1, z1, hR, er, fe]
theorem words_of_length_eq (hk : 2 ≤ k) (hk' : k ≤ 6) (L : Nat) (hL : L ≤ 3) : F_words_of_length [.int k, .int (L : Int)] = .ok (.list ((rgW k.toNat L).map lst)) [none, none] := by
  obtain ⟨w3, fe⟩ := wl_loop hk hk' (some (.int (L : Int))) L 0 none (by omega)
  rw [Nat.zero_add] at fe
  exact wl_core (check_size_ok (by unfold sizeOk; rw [decide_eq_true hk, decide_eq_true hk']; rfl)) (by omega) (by omega) (inR_n L (by omega)) (by rw [Int.toNat_natCast, rng_nat, List.range_eq_range']) fe
end
section
variable {k : Int}
theorem wl_bad {n : Int} (cs : F_check_size [.int k] = .ok .none [none]) (h : n < 0 ∨ 12 < n) : F_words_of_length [.int k, .int n] = .exc "BadNumber" .none [none, none] := by
  refine body_exc (r := [some (.int k), some (.int n), none, none, none, none]) ?_
  by_cases h0 : 0 ≤ n
  · have l0 : dLe (.int 0) (.int n) = some (.bool true) := by rw [dLe_int, decide_eq_true h0]
    have l1 : dLe (.int n) (.int 12) = some (.bool false) := by rw [dLe_int, decide_eq_false (by omega)]
    simp [g_words_of_length, cs, l0, l1]
  · have l0 : dLe (.int 0) (.int n) = some (.bool false) := by rw [dLe_int, decide_eq_false h0]
    simp [g_words_of_length, cs, l0]
theorem wl_size {A : D} (h : sizeOk k = false) : F_words_of_length [.int k, A] = .exc "BadNumber" .none [none, none] := by
  have c := check_size_bad h
  refine body_exc (r := [some (.int k), some A, none, none, none, none]) ?_
  simp [g_words_of_length, c]
theorem ll_core {L W v3 : Option D} {X Y : List D} {w : D} {z : Str} (sl : dSl (.str "abcdef") none (some k) = some (.str z)) (c : compL [6] (kName 6) tYesR b__law_listed_1 (z.cps.toList.map sgn) [some (.int k), L, W, v3, some (.list X), some w, none] [] = .ok Y [some (.int k), L, W, v3, some (.list X), some w, none]) (ad : dAdd4 (.list X) (.list Y) = some (.list (X ++ Y))) :
    b__law_listed_2 [some (.int k), L, W, v3, some (.list X), some w, none] = .nx [some (.int k), L, W, v3, some (.list (X ++ Y)), some w, none] := by
  simp [sl, c, ad]
theorem ll_word (hk : 2 ≤ k) (hk' : k ≤ 6) (w : List Nat) (hw : w.length ≤ 50) (L W v3 : Option D) (X : List (List Nat)) (hX : X.length ≤ 90000) :
    b__law_listed_2 [some (.int k), L, W, v3, some (.list (X.map lst)), some (lst w), none] = .nx [some (.int k), L, W, v3, some (.list ((X ++ extW k.toNat w).map lst)), some (lst w), none] := by
  have ct := cut_k hk hk'
  have c := compL_mapG (vs := [6]) (k := kName 6) (t := tYesR) (f := b__law_listed_1) (fun i : Nat => sgn (97 + i)) (fun i => lst (w ++ [97 + i])) [some (.int k), L, W, v3, some (.list (X.map lst)), some (lst w), none] (List.range k.toNat) [] (fun i _ => ⟨[some (.int k), L, W, v3, some (.list (X.map lst)), some (lst w), some (sgn (97 + i))], rfl, rfl, by
    have a : dAdd4 (lst w) (sgn (97 + i)) = some (lst (w ++ [97 + i])) := dAdd4_l w [97 + i] (by rw [size_eq]; simp; omega)
    generalize sgn (97 + i) = S at *
    generalize lst (w ++ [97 + i]) = Z at *
    generalize lst w = Y at *
    simp [a], rfl⟩) (by rw [List.length_range, size_eq]; simp; omega)
  have hm1 : (tl (cutS "abcdef" none (some k))).map sgn = (List.range k.toNat).map fun i => sgn (97 + i) := by rw [ct, List.map_map]; rfl
  rw [← hm1, List.nil_append] at c
  have hY : ((List.range k.toNat).map fun i => lst (w ++ [97 + i])) = (extW k.toNat w).map lst := by unfold extW; rw [List.map_map]; rfl
  rw [hY] at c
  rw [List.map_append]
  exact ll_core (sl_ab k) c (dAdd4_li _ _ (by unfold extW; simp only [List.length_map, List.length_range]; rw [size_eq]; omega))
theorem ll_in (hk : 2 ≤ k) (hk' : k ≤ 6) (L W v3 : Option D) : ∀ (ring X : List (List Nat)) (v5 : Option D), (∀ w ∈ ring, w.length ≤ 50) → X.length + ring.length * 6 ≤ 90000 →
    ∃ w5, forE (kName 5) b__law_listed_2 (ring.map lst) [some (.int k), L, W, v3, some (.list (X.map lst)), v5, none] = .nx [some (.int k), L, W, v3, some (.list ((X ++ ring.flatMap (extW k.toNat)).map lst)), w5, none]
  | [], X, v5, _, _ => ⟨v5, by simp⟩
  | w :: ring, X, v5, hw, hX => by
    rw [List.length_cons] at hX
    have st := ll_word hk hk' w (hw w List.mem_cons_self) L W v3 X (by omega)
    obtain ⟨w5, ih⟩ := ll_in hk hk' L W v3 ring (X ++ extW k.toNat w) (some (lst w)) (fun x hx => hw x (List.mem_cons_of_mem _ hx)) (by unfold extW; simp only [List.length_append, List.length_map, List.length_range]; omega)
    refine ⟨w5, ?_⟩
    rw [List.map_cons, forE_nx (r1 := [some (.int k), L, W, v3, some (.list (X.map lst)), some (lst w), none]) rfl st, ih, List.flatMap_cons, List.append_assoc]
theorem ll_step {L v3 v4 v5 w5 : Option D} {RG RG2 : List D} (fe : forE (kName 5) b__law_listed_2 RG [some (.int k), L, some (.list RG), v3, some (.list []), v5, none] = .nx [some (.int k), L, some (.list RG), v3, some (.list RG2), w5, none]) :
    b__law_listed_3 [some (.int k), L, some (.list RG), v3, v4, v5, none] = .nx [some (.int k), L, some (.list RG2), v3, some (.list RG2), w5, none] := by
  have z0 : 0 ≤ sizeLine := by decide
  simp [fe, z0]
theorem ll_loop (hk : 2 ≤ k) (hk' : k ≤ 6) (L : Option D) : ∀ (t j : Nat) (v3 v4 v5 : Option D), j + t ≤ 3 →
    ∃ w3 w4 w5, forE (kName 3) b__law_listed_3 ((List.range' j t).map fun i : Nat => PyData.int (i : Int)) [some (.int k), L, some (.list ((rgW k.toNat j).map lst)), v3, v4, v5, none] = .nx [some (.int k), L, some (.list ((rgW k.toNat (j + t)).map lst)), w3, w4, w5, none]
  | 0, j, v3, v4, v5, _ => ⟨v3, v4, v5, rfl⟩
  | t + 1, j, v3, v4, v5, hj => by
    have f1 := rg_few hk hk' (L := j) (by omega)
    obtain ⟨x5, st⟩ := ll_in hk hk' L (some (.list ((rgW k.toNat j).map lst))) (some (.int (j : Int))) (rgW k.toNat j) [] v5 (fun w hw => by rw [rg_mem _ _ w hw]; omega) (by simp; omega)
    rw [List.nil_append] at st
    have st2 := ll_step (v4 := v4) st
    obtain ⟨w3, w4, w5, ih⟩ := ll_loop hk hk' L t (j + 1) (some (.int (j : Int))) (some (.list (((rgW k.toNat j).flatMap (extW k.toNat)).map lst))) x5 (by omega)
    refine ⟨w3, w4, w5, ?_⟩
    rw [List.range'_succ, List.map_cons]
    refine (forE_nx (r1 := [some (.int k), L, some (.list ((rgW k.toNat j).map lst)), some (.int (j : Int)), v4, v5, none]) rfl st2).trans ?_
    rw [show j + 1 + t = j + (t + 1) by omega] at ih
    exact ih
theorem lst_core {n : Int} {RG R : List D} {w3 w4 w5 : Option D} (hR : DL.inR n = true) (er : rngD 0 n.toNat = R) (fe : forE (kName 3) b__law_listed_3 R [some (.int k), some (.int n), some (.list [.str ""]), none, none, none, none] = .nx [some (.int k), some (.int n), some (.list RG), w3, w4, w5, none]) : F__law_listed [.int k, .int n] = .ok (.list RG) [none, none] := by
  have z1 : 1 ≤ sizeLine := by decide
  refine body_ok (r := [some (.int k), some (.int n), some (.list RG), w3, w4, w5, none]) ?_
  simp [g__law_listed, z1, hR, er, fe]
theorem listed_eq (hk : 2 ≤ k) (hk' : k ≤ 6) (L : Nat) (hL : L ≤ 3) : F__law_listed [.int k, .int (L : Int)] = .ok (.list ((rgW k.toNat L).map lst)) [none, none] := by
  obtain ⟨w3, w4, w5, fe⟩ := ll_loop hk hk' (some (.int (L : Int))) L 0 none none none (by omega)
  rw [Nat.zero_add] at fe
  exact lst_core (inR_n L (by omega)) (by rw [Int.toNat_natCast, rng_nat, List.range_eq_range']) fe
end
/-! keys and the order -/
theorem key_eq (w : List Nat) (h : w.length ≤ 1000000) : F_key_of [lst w] = .ok (.tuple [.int w.length, lst w]) [none] := by
  have e := cLen_l w h
  refine body_ok (r := [some (lst w)]) ?_
  generalize lst w = L at *
  have z2 : 2 ≤ sizeLine := by decide
  simp [g_key_of, e, z2]
theorem place_eq (w : List Nat) (h : w.length ≤ 1000000) : F__law_place [lst w] = .ok (.tuple [.int w.length, lst w]) [none] := by
  have e := cLen_l w h
  refine body_ok (r := [some (lst w)]) ?_
  generalize lst w = L at *
  have z2 : 2 ≤ sizeLine := by decide
  simp [g__law_place, e, z2]
theorem bf_core {K A B KA KB V : D} (c1 : F_check_word [K, A] = .ok .none [none, none]) (c2 : F_check_word [K, B] = .ok .none [none, none]) (k1 : F_key_of [A] = .ok KA [none]) (k2 : F_key_of [B] = .ok KB [none]) (lt : dLt2 KA KB = some V) : F_is_before [K, A, B] = .ok V [none, none, none] := by
  refine body_ok (r := [some K, some A, some B]) ?_
  simp [g_is_before, c1, c2, k1, k2, lt]
theorem bf_x1 {K A B : D} {x : Str} (c1 : F_check_word [K, A] = .exc x .none [none, none]) : F_is_before [K, A, B] = .exc x .none [none, none, none] := by
  refine body_exc (r := [some K, some A, some B]) ?_
  simp [g_is_before, c1]
theorem bf_x2 {K A B : D} {x : Str} (c1 : F_check_word [K, A] = .ok .none [none, none]) (c2 : F_check_word [K, B] = .exc x .none [none, none]) : F_is_before [K, A, B] = .exc x .none [none, none, none] := by
  refine body_exc (r := [some K, some A, some B]) ?_
  simp [g_is_before, c1, c2]
theorem lo_eq {k : Int} (h : sizeOk k = true) : F_letters_of [.int k] = .ok (.str (cutS "abcdef" none (some k))) [none] := by
  have c := check_size_ok h
  have sl := sl_ab k
  refine body_ok (r := [some (.int k)]) ?_
  generalize cutS "abcdef" none (some k) = z at *
  simp [g_letters_of, c, sl]
theorem lo_bad {k : Int} (h : sizeOk k = false) : F_letters_of [.int k] = .exc "BadNumber" .none [none] := by
  have c := check_size_bad h
  refine body_exc (r := [some (.int k)]) ?_
  simp [g_letters_of, c]
def wle (a b : List Nat) : Bool := !decide (b.length < a.length ∨ (b.length = a.length ∧ b < a))
theorem wle_iff {a b : List Nat} : wle a b = true ↔ a.length < b.length ∨ (a.length = b.length ∧ a ≤ b) := by
  unfold wle
  rw [Bool.not_eq_true', decide_eq_false_iff_not]
  constructor
  · intro h
    by_cases q : a.length = b.length
    · exact .inr ⟨q, List.not_lt.mp fun z => h (.inr ⟨q.symm, z⟩)⟩
    · exact .inl (by
        by_cases z : b.length < a.length
        · exact absurd (.inl z) h
        · omega)
  · rintro (h | ⟨h1, h2⟩) (z | ⟨z1, z2⟩)
    · omega
    · omega
    · omega
    · exact List.not_lt.mpr h2 z2
theorem wle_trans (a b c : List Nat) (h : wle a b = true) (q : wle b c = true) : wle a c = true := by
  rw [wle_iff] at h q ⊢
  rcases h with h | ⟨h1, h2⟩ <;> rcases q with q | ⟨q1, q2⟩
  · exact .inl (by omega)
  · exact .inl (by omega)
  · exact .inl (by omega)
  · exact .inr ⟨by omega, List.le_trans h2 q2⟩
theorem wle_total (a b : List Nat) : (wle a b || wle b a) = true := by
  rw [Bool.or_eq_true, wle_iff, wle_iff]
  by_cases h : a.length = b.length
  · rcases List.le_total a b with z | z
    · exact .inl (.inr ⟨h, z⟩)
    · exact .inr (.inr ⟨h.symm, z⟩)
  · by_cases z : a.length < b.length
    · exact .inl (.inl z)
    · exact .inr (.inl (by omega))
theorem wle_anti {a b : List Nat} (h : wle a b = true) (q : wle b a = true) : a = b := by
  rw [wle_iff] at h q
  rcases h with h | ⟨h1, h2⟩ <;> rcases q with q | ⟨q1, q2⟩
  · omega
  · omega
  · omega
  · exact List.le_antisymm h2 q2
abbrev toS (w : List Nat) : Str := ⟨w.toArray⟩
theorem sort_toS {F : FS} (hF : ∀ w : List Nat, w.length ≤ 1000000 → keyOfF F (toS w) = some ((w.length : Int), toS w)) (ws : List (List Nat)) (hw : ∀ w ∈ ws, w.length ≤ 1000000) : sortK F (ws.map toS) = (ws.mergeSort wle).map toS := by
  unfold sortK
  refine (List.map_mergeSort fun a ha b hb => ?_).symm
  have ka : keyD F (toS a) = ((a.length : Int), toS a) := by unfold keyD; rw [hF a (hw a ha)]; rfl
  have kb : keyD F (toS b) = ((b.length : Int), toS b) := by unfold keyD; rw [hF b (hw b hb)]; rfl
  show wle a b = !PySem.W.dataLt (kpD (keyD F (toS b))) (kpD (keyD F (toS a)))
  rw [ka, kb]
  unfold wle
  congr 1
  exact (dLt_words b a).symm
theorem dis_sort (ws : List (List Nat)) : dis (ws.mergeSort wle) = (dis ws).mergeSort wle := by
  have p1 : (dis (ws.mergeSort wle)).Perm ((dis ws).mergeSort wle) := by
    refine List.Perm.trans ?_ (List.mergeSort_perm _ _).symm
    refine (List.perm_ext_iff_of_nodup (dis_nodup _) (dis_nodup _)).mpr fun x => ?_
    rw [mem_dis, mem_dis]
    exact (List.mergeSort_perm ws wle).mem_iff
  have s0 : (ws.mergeSort wle).Pairwise (fun a b => wle a b = true) := List.pairwise_mergeSort wle_trans wle_total ws
  have s2 : ((dis ws).mergeSort wle).Pairwise (fun a b => wle a b = true) := List.pairwise_mergeSort wle_trans wle_total _
  have s1 : (dis (ws.mergeSort wle)).Pairwise (fun a b => wle a b = true) := by
    have sub : ∀ (l a : List (List Nat)), (a ++ l).Pairwise (fun a b => wle a b = true) → (l.foldl dadd a).Pairwise (fun a b => wle a b = true) := fun l => by
      induction l with
      | nil => exact fun a h => by rw [List.append_nil] at h; exact h
      | cons x l ih =>
        intro a h
        rw [List.foldl_cons]
        refine ih (dadd a x) ?_
        unfold dadd
        split
        · rw [List.pairwise_append] at h ⊢
          exact ⟨h.1, (List.pairwise_cons.mp h.2.1).2, fun u hu v hv => h.2.2 u hu v (List.mem_cons_of_mem _ hv)⟩
        · rw [List.append_assoc]; exact h
    exact sub _ [] s0
  exact List.Perm.eq_of_pairwise (le := fun a b => wle a b = true) (fun _ _ _ _ => wle_anti) s1 s2 p1
theorem lst_keyEq (a b : List Nat) : keyEqD (lst a) (lst b) = true ↔ a = b := by
  rw [keyEq_of (key_lst a) (key_lst b)]
  exact ⟨fun h => lst_inj h, fun h => by rw [h]⟩
theorem io_core {WS : List D} {KD2 : List (D × D)} {SS : List Str} (dc : dcompL false [1] (kName 1) tYesR b_in_order_1 b_in_order_2 WS [some (.list WS), none] [] = .ok KD2 [some (.list WS), none]) (so : strsOf (KD2.map (·.1)) = some SS) (ok : SS.length ≤ sizeLine ∧ ∀ x ∈ SS, (keyOfF F_key_of x).isSome = true) : F_in_order [.list WS] = .ok (.list ((sortK F_key_of SS).map .str)) [none] := by
  refine body_ok (r := [some (.list WS), none]) ?_
  have ok1 := ok.1
  have ok2 := ok.2
  simp only [List.map_cons, List.map_nil, List.replicate]
  simp [g_in_order, dc, so]
  rw [if_pos ⟨ok1, ok2⟩]
  rfl
theorem keyF_eq (w : List Nat) (h : w.length ≤ 1000000) : keyOfF F_key_of (toS w) = some ((w.length : Int), toS w) := by
  have e : F_key_of [.str (toS w)] = .ok (.tuple [.int w.length, .str (toS w)]) [none] := key_eq w h
  unfold keyOfF
  rw [e]
theorem placeF_eq (w : List Nat) (h : w.length ≤ 1000000) : keyOfF F__law_place (toS w) = some ((w.length : Int), toS w) := by
  have e : F__law_place [.str (toS w)] = .ok (.tuple [.int w.length, .str (toS w)]) [none] := place_eq w h
  unfold keyOfF
  rw [e]
theorem in_order_eq (ws : List (List Nat)) (hn : ws.length ≤ 1000) (hw : ∀ w ∈ ws, w.length ≤ 1000000) : F_in_order [.list (ws.map lst)] = .ok (.list ((dis (ws.mergeSort wle)).map lst)) [none] := by
  have dc := dcomp_dis (n := false) (vs := [1]) (k := kName 1) (t := tYesR) (fk := b_in_order_1) (fv := b_in_order_2) lst (.bool true) lst_keyEq (fun _ => rfl) [some (.list (ws.map lst)), none] ws [] (fun w _ => ⟨[some (.list (ws.map lst)), some (lst w)], rfl, rfl, rfl, rfl, rfl⟩) (by simp only [List.length_nil]; omega)
  have so : strsOf ((dMap lst (fun _ => (.bool true : D)) (dis ws)).map (·.1)) = some ((dis ws).map toS) := by
    have := strsOf_map ((dis ws).map toS)
    rw [List.map_map] at this
    unfold dMap
    rw [List.map_map]
    exact this
  have hd : ∀ w ∈ dis ws, w.length ≤ 1000000 := fun w h => hw w ((mem_dis _ _).mp h)
  have r := io_core (KD2 := dMap lst (fun _ => (.bool true : D)) (dis ws)) dc so ⟨by rw [List.length_map, size_eq]; have := dis_len ws; omega, fun x hx => by
    obtain ⟨w, h, rfl⟩ := List.mem_map.mp hx
    rw [keyF_eq w (hd w h)]; rfl⟩
  rw [r, sort_toS keyF_eq _ hd, dis_sort, List.map_map]
  rfl
end Lw
end

section
set_option maxHeartbeats 400000
namespace Lw
open PySem PySem.Spec PyProof.Rows L2 DL TL
/-! common beginnings -/
theorem sg_at (w : List Nat) (i : Nat) (h : i < w.length) (hl : w.length ≤ 100000) : dIx (lst w) (.int (i : Int)) = some (sgn (w.getD i 0)) := ix_sg w i h (by rw [size_eq]; omega)
theorem cmn_turn (a b : List Nat) (ha : a.length ≤ 100000) (hb : b.length ≤ 100000) (n : Nat) : b_common_1 [some (lst a), some (lst b), some (.int (n : Int))] = .ok (decide (n < min a.length b.length) && decide (a.getD n 0 = b.getD n 0)) [some (lst a), some (lst b), some (.int (n : Int))] := by
  have c1 := cLen_l a (by omega)
  have c2 := cLen_l b (by omega)
  have c3 := cMin_nat a.length b.length
  have c4 := dLt_int (n : Int) ((min a.length b.length : Nat) : Int)
  by_cases h : n < min a.length b.length
  · rw [decide_eq_true (by omega)] at c4
    have x1 := sg_at a n (by omega) ha
    have x2 := sg_at b n (by omega) hb
    have x3 := dEq_sgn (a.getD n 0) (b.getD n 0)
    rw [decide_eq_true h, Bool.true_and]
    generalize a.getD n 0 = p at *
    generalize b.getD n 0 = q at *
    simp [c1, c2, c3, c4, x1, x2, x3]
  · rw [decide_eq_false (by omega)] at c4
    rw [decide_eq_false h, Bool.false_and]
    simp [c1, c2, c3, c4]
theorem cmn_loop (a b : List Nat) (ha : a.length ≤ 100000) (hb : b.length ≤ 100000) : ∀ (t n : Nat), n + t = lcp a b → sWhile b_common_1 b_common_2 [some (lst a), some (lst b), some (.int (n : Int))] = .nx [some (lst a), some (lst b), some (.int (lcp a b : Int))]
  | 0, n, h => by
    have hn : n = lcp a b := by omega
    subst hn
    refine while_end ?_
    rw [cmn_turn a b ha hb]
    have h1 := lcp_le a b
    by_cases hm : lcp a b < min a.length b.length
    · rw [decide_eq_false (lcp_out a b (by omega) (by omega)), Bool.and_false]
    · rw [decide_eq_false hm, Bool.false_and]
  | t + 1, n, h => by
    have h1 := lcp_le a b
    have e := cmn_turn a b ha hb n
    rw [decide_eq_true (by omega), decide_eq_true (lcp_in a b n (by omega)), Bool.true_and] at e
    refine (while_go e (r2 := [some (lst a), some (lst b), some (.int ((n + 1 : Nat) : Int))]) ?_).trans (cmn_loop a b ha hb t (n + 1) (by omega))
    simp [dAdd_int]
theorem common_eq (a b : List Nat) (ha : a.length ≤ 100000) (hb : b.length ≤ 100000) : F_common [lst a, lst b] = .ok (lst (cmn a b)) [none, none] := by
  have e := cmn_loop a b ha hb (lcp a b) 0 (by omega)
  have s1 := sl_to a (lcp a b : Nat) (by omega) (by have := lcp_le a b; omega) (by rw [size_eq]; omega)
  rw [Int.toNat_natCast] at s1
  refine body_ok (r := [some (lst a), some (lst b), some (.int (lcp a b : Int))]) ?_
  have e' : sWhile b_common_1 b_common_2 [some (lst a), some (lst b), some (.int 0)] = .nx [some (lst a), some (lst b), some (.int (lcp a b : Int))] := e
  unfold cmn
  generalize a.take (lcp a b) = A at *
  simp [g_common, e', s1]
theorem take_iff : ∀ (a b : List Nat) (j : Nat), j < a.length → j < b.length → (a.take (j + 1) = b.take (j + 1) ↔ j < lcp a b)
  | [], _, j, h, _ => absurd h (Nat.not_lt_zero _)
  | _ :: _, [], j, _, h => absurd h (Nat.not_lt_zero _)
  | x :: a, y :: b, 0, _, _ => by
    unfold lcp
    by_cases e : x = y
    · simp [e]
    · simp [e]
  | x :: a, y :: b, j + 1, h, q => by
    have ih := take_iff a b j (Nat.lt_of_succ_lt_succ h) (Nat.lt_of_succ_lt_succ q)
    unfold lcp
    by_cases e : x = y
    · simp [e, ih]
    · simp [e]
theorem filter_lt : ∀ (m L : Nat), ((List.range m).filter fun j => decide (j < L)).length = min m L
  | 0, L => by simp
  | m + 1, L => by
    rw [List.range_succ, List.filter_append, List.length_append, filter_lt m L]
    by_cases h : m < L
    · simp [h]; omega
    · simp [h]; omega
/-! the law's words -/
theorem lw_step (k : Int) (c : Nat) (x : Option D) : b__law_is_word_1 [some (.int k), x, some (sgn c)] = .ok (.bool (lts k c)) [some (.int k), x, some (sgn c)] := by
  have e := dIn_sgn c (cutS "abcdef" none (some k))
  have ez := sl_ab k
  have e : dIn (sgn c) (.str (cutS "abcdef" none (some k))) = some (.bool (lts k c)) := e
  generalize cutS "abcdef" none (some k) = z at *
  simp [ez, e]
theorem law_is_word_eq (k : Int) (l : List Nat) (hl : l.length ≤ 100000) : F__law_is_word [.int k, lst l] = .ok (.bool (wordOk k l)) [none, none] := by
  have ec := compL_mapG (vs := [2]) (k := kName 2) (t := tYesR) (f := b__law_is_word_1) sgn (fun c => .bool (lts k c)) [some (.int k), some (lst l), none] l [] (fun c _ => ⟨_, rfl, rfl, lw_step k c _, rfl⟩) (by simp; rw [size_eq]; omega)
  have ea := cAll_mapG (lts k) l
  have e3 := cLen_l l (by omega)
  simp only [List.nil_append] at ec
  refine body_ok (r := [some (.int k), some (lst l), none]) ?_
  unfold wordOk
  by_cases h6 : l.length ≤ 60
  · have h6' : dLt (.int (l.length : Int)) (.int 61) = some (.bool true) := by rw [dLt_int, decide_eq_true (by omega)]
    rw [decide_eq_true h6, Bool.true_and]
    simp [g__law_is_word, e3, h6', ec, ea, tru]
  · have h6' : dLt (.int (l.length : Int)) (.int 61) = some (.bool false) := by rw [dLt_int, decide_eq_false (by omega)]
    rw [decide_eq_false h6, Bool.false_and]
    generalize lst l = X at *
    simp [g__law_is_word, e3, h6', tru]
/-! what is told -/
theorem nobool_rf (a b : Int) : nobool (rfD a b) = true := rfl
theorem fine_rf {a b : Int} (ha : a.natAbs < 10 ^ 12) (hb : b.natAbs < 10 ^ 12) : Fine 2 1000 (rfD a b) := by
  have h1 : Fine 1 102 (.list [.int a, .int b] : D) := (fine_list (n := 0) (w := 50) (ds := [.int a, .int b]) fun d hd => by
    rcases List.mem_cons.mp hd with rfl | hd
    · exact fine_int ha
    · rw [List.mem_singleton.mp hd]; exact fine_int hb).mono (Nat.le_refl _) (by simp)
  have h0 : Fine 0 7 (lst (tl "refused")) := fine_lst (l := tl "refused") (by decide)
  exact (fine_tuple (n := 1) (w := 102) (ds := [.str "refused", .list [.int a, .int b]]) fun d hd => by
    rcases List.mem_cons.mp hd with rfl | hd
    · exact h0.mono (by omega) (by omega)
    · rw [List.mem_singleton.mp hd]; exact h1).mono (Nat.le_refl _) (by simp)
theorem fine_tl {n w : Nat} {d : D} (h : Fine n w d) (hw : 4 ≤ w) : Fine (n + 1) (2 * (w + 1)) (tlD d) := by
  have h0 : Fine 0 4 (lst (tl "told")) := fine_lst (l := tl "told") (by decide)
  exact fine_tuple (n := n) (w := w) (ds := [.str "told", d]) fun x hx => by
    rcases List.mem_cons.mp hx with rfl | hx
    · exact h0.mono (by omega) hw
    · rw [List.mem_singleton.mp hx]; exact h
theorem ne_rf : dNe (rfD 1 0) (rfD 1 0) = some (.bool false) := dNe_self (fine_rf (by decide) (by decide)) (by decide) (nobool_rf 1 0)
/-! refusals of k -/
theorem wr_core {ns L K A B KW X I : D} {w : Int} {b : Bool} (e1 : dEq (.int w) (.int 4) = some (.bool b)) (c : cInt [.bool b] = some I) (i : dIx (.list [A, .int 2]) I = some X) (t : F__law_told [.int w, KW, X, B] = .ok (rfD 1 0) [none, none, none, none]) :
    b_law_1 [some ns, some L, some K, some A, some B, some KW, some (.int w), none, none, none, none, none, none, none, none] = .nx [some ns, some L, some K, some A, some B, some KW, some (.int w), none, none, none, none, none, none, none, none] := by
  have z2 : 2 ≤ sizeLine := by decide
  have ne := ne_rf
  have hr : (PyData.tuple [.str "refused", .list [.int 1, .int 0]] : D) = rfD 1 0 := rfl
  generalize rfD 1 0 = RF at *
  simp [e1, c, i, t, z2, hr, ne]
theorem cInt_b (b : Bool) : cInt [.bool b] = some (.int (if b = true then 1 else 0)) := by cases b <;> rfl
theorem wr_told {kw : Int} (hb : sizeOk kw = false) (a b : List Nat) (ha : a.length ≤ 1000) (hb' : b.length ≤ 1000) :
    F__law_told [.int 0, .int kw, lst a, lst b] = .ok (rfD 1 0) [none, none, none, none] ∧ F__law_told [.int 1, .int kw, lst a, lst b] = .ok (rfD 1 0) [none, none, none, none] ∧ F__law_told [.int 2, .int kw, lst a, lst b] = .ok (rfD 1 0) [none, none, none, none] ∧ F__law_told [.int 3, .int kw, lst a, lst b] = .ok (rfD 1 0) [none, none, none, none] ∧ F__law_told [.int 4, .int kw, .int 2, lst b] = .ok (rfD 1 0) [none, none, none, none] := by
  have e1 := is_word_eq kw a (by omega)
  rw [hb] at e1
  have e2 := check_word_eq kw a (by omega)
  rw [hb] at e2
  exact ⟨told_b (t0_x (lo_bad hb)), told_b (t1_x e1), told_b (t2_x e2), told_b (t3_x (bf_x1 e2)), told_b (t4_x (wl_size hb))⟩
theorem wr_loop {ns L K : D} {kw : Int} (hb : sizeOk kw = false) (a b : List Nat) (ha : a.length ≤ 1000) (hb' : b.length ≤ 1000) :
    forE (kName 6) b_law_1 (rngD 0 5) [some ns, some L, some K, some (lst a), some (lst b), some (.int kw), none, none, none, none, none, none, none, none, none] = .nx [some ns, some L, some K, some (lst a), some (lst b), some (.int kw), some (.int 4), none, none, none, none, none, none, none, none] := by
  obtain ⟨t0, t1, t2, t3, t4⟩ := wr_told hb a b ha hb'
  have hr : rngD 0 5 = [.int 0, .int 1, .int 2, .int 3, .int 4] := rfl
  rw [hr]
  have s0 := wr_core (ns := ns) (L := L) (K := K) (A := lst a) (w := 0) (b := false) (I := .int 0) (X := lst a) rfl rfl rfl t0
  have s1 := wr_core (ns := ns) (L := L) (K := K) (A := lst a) (w := 1) (b := false) (I := .int 0) (X := lst a) rfl rfl rfl t1
  have s2 := wr_core (ns := ns) (L := L) (K := K) (A := lst a) (w := 2) (b := false) (I := .int 0) (X := lst a) rfl rfl rfl t2
  have s3 := wr_core (ns := ns) (L := L) (K := K) (A := lst a) (w := 3) (b := false) (I := .int 0) (X := lst a) rfl rfl rfl t3
  have s4 := wr_core (ns := ns) (L := L) (K := K) (A := lst a) (w := 4) (b := true) (I := .int 1) (X := .int 2) rfl rfl rfl t4
  rw [forE_nx rfl s0, forE_nx rfl s1, forE_nx rfl s2, forE_nx rfl s3, forE_nx rfl s4]
  rfl
/-! the words in their order -/
theorem key_in (S : List (List Nat)) (l : List Nat) (hl : ∀ c ∈ l, c < 128) (hs : ∀ p ∈ S, ∀ c ∈ p, c < 128) (n : Nat) (hn : l.length ≤ n) (hn' : ∀ p ∈ S, p.length ≤ n) : dNotIn (lst l) (.list (S.map lst)) = some (.bool (!decide (l ∈ S))) := by
  obtain ⟨b, _, h, hb⟩ := dIn_fine (n := 0) (w := n) (d := lst l) (ds := S.map lst) ((fine_lst hl).mono (Nat.le_refl _) hn) (fun x hx => by
    obtain ⟨p, hp, rfl⟩ := List.mem_map.mp hx
    exact (fine_lst (hs p hp)).mono (Nat.le_refl _) (hn' p hp)) (by decide) rfl (fun x hx => by obtain ⟨p, _, rfl⟩ := List.mem_map.mp hx; rfl)
  rw [h]
  have : b = decide (l ∈ S) := by
    rw [Bool.eq_iff_iff, hb, decide_eq_true_eq, List.mem_map]
    exact ⟨fun ⟨p, hp, e⟩ => by rw [← lst_inj e]; exact hp, fun h => ⟨l, h, rfl⟩⟩
  rw [this]
theorem so_step {a0 a1 a2 a3 a4 a5 a6 a7 a9 a10 a12 a13 a14 : Option D} {TB : List D} {W : D} {b : Bool} (h : dNotIn W (.list TB) = some (.bool b)) (hl : TB.length < sizeLine) :
    b_law_5 [a0, a1, a2, a3, a4, a5, a6, a7, some (.list TB), a9, a10, some W, a12, a13, a14] = .nx [a0, a1, a2, a3, a4, a5, a6, a7, some (.list (if b = true then TB ++ [W] else TB)), a9, a10, some W, a12, a13, a14] := by
  cases b with
  | true =>
    simp [h, mAppend, hl]
  | false => simp [h]
theorem so_loop {a0 a1 a2 a3 a4 a5 a6 a7 a9 a10 a12 a13 a14 : Option D} (n : Nat) : ∀ (ws acc : List (List Nat)) (a11 : Option D), (∀ w ∈ ws, (∀ c ∈ w, c < 128) ∧ w.length ≤ n) → (∀ w ∈ acc, (∀ c ∈ w, c < 128) ∧ w.length ≤ n) → acc.length + ws.length ≤ 1000 →
    ∃ w11, forE (kName 11) b_law_5 (ws.map lst) [a0, a1, a2, a3, a4, a5, a6, a7, some (.list (acc.map lst)), a9, a10, a11, a12, a13, a14] = .nx [a0, a1, a2, a3, a4, a5, a6, a7, some (.list ((ws.foldl dadd acc).map lst)), a9, a10, w11, a12, a13, a14]
  | [], acc, a11, _, _, _ => ⟨a11, rfl⟩
  | w :: ws, acc, a11, hw, ha, hn => by
    rw [List.length_cons] at hn
    have e := key_in acc w (hw w List.mem_cons_self).1 (fun p hp => (ha p hp).1) n (hw w List.mem_cons_self).2 (fun p hp => (ha p hp).2)
    have st := so_step (a0 := a0) (a1 := a1) (a2 := a2) (a3 := a3) (a4 := a4) (a5 := a5) (a6 := a6) (a7 := a7) (a9 := a9) (a10 := a10) (a12 := a12) (a13 := a13) (a14 := a14) e (by rw [List.length_map, size_eq]; omega)
    have hd : (if (!decide (w ∈ acc)) = true then acc.map lst ++ [lst w] else acc.map lst) = (dadd acc w).map lst := by
      unfold dadd
      by_cases h : w ∈ acc
      · simp [h]
      · simp [h]
    rw [hd] at st
    have hl : (dadd acc w).length ≤ acc.length + 1 := by unfold dadd; split <;> simp
    obtain ⟨w11, ih⟩ := so_loop n ws (dadd acc w) (some (lst w)) (fun x hx => hw x (List.mem_cons_of_mem _ hx)) (fun x hx => by
      rcases mem_dadd.mp hx with h | rfl
      · exact ha x h
      · exact hw _ List.mem_cons_self) (by omega)
    refine ⟨w11, ?_⟩
    rw [List.map_cons, forE_nx (r1 := [a0, a1, a2, a3, a4, a5, a6, a7, some (.list (acc.map lst)), a9, a10, some (lst w), a12, a13, a14]) rfl st, ih, List.foldl_cons]
theorem cSort_eq (ws : List (List Nat)) (hn : ws.length ≤ 1000) (hw : ∀ w ∈ ws, w.length ≤ 1000000) : cSortK F__law_place [.list (ws.map lst)] = some ((ws.mergeSort wle).map lst) := by
  have so : strsOf (ws.map lst) = some (ws.map toS) := by
    have := strsOf_map (ws.map toS)
    rw [List.map_map] at this
    exact this
  have ok : (ws.map toS).length ≤ sizeLine ∧ ∀ x ∈ ws.map toS, (keyOfF F__law_place x).isSome = true := ⟨by rw [List.length_map, size_eq]; omega, fun x hx => by
    obtain ⟨w, h, rfl⟩ := List.mem_map.mp hx
    rw [placeF_eq w (hw w h)]; rfl⟩
  simp only [cSortK, so]
  rw [if_pos ok, sort_toS placeF_eq _ hw, List.map_map]
  rfl
end Lw
end

section
set_option maxHeartbeats 400000
namespace Lw
open PySem PySem.Spec PyProof.Rows L2 DL TL
noncomputable def g_lawB : Rho → SR := (sSeq (sSet 10 (eLst (aCons (oVal (eVar 3)) (aCons (oVal (eVar 4)) (aCons (oVal (eSl (oVal (eVar 3)) pNone (pSome (eCst (.int 2))))) (aCons (oVal (eBack (oVal (eVar 4)))) (aCons (oVal (eVar 3)) (aCons (oVal (eCst (.str "ff"))) aNil))))))))
  (sSeq (sSet 10 (eComp [11] (iAny (eVar 10)) (kName 11) b_law_3 b_law_4))
  (sThw 8 (sSeq (sSet 8 (eLst aNil))
  (sSeq (sFor (iAny (eCallL (cSortK F__law_place) (aCons (oVal (eVar 10)) aNil))) (kName 11) b_law_5)
  (sFrz 8 (sSeq (sIf (tBool (eBin dNe (oVal (eCall cRepr (aCons (oVal (eFn F_in_order [.e (eCallL cListA (aCons (oVal (eVar 10)) aNil))])) aNil))) (oVal (eCall cRepr (aCons (oVal (eVar 8)) aNil))))) (sRet (eCst (.bool false))) sNil)
  (sSeq (sSet 12 (eCall cLen (aCons (oVal (eComp [14] (iRng1 (aCons (oVal (eCall cMin (aCons (oVal (eCall cLen (aCons (oVal (eVar 3)) aNil))) (aCons (oVal (eCall cLen (aCons (oVal (eVar 4)) aNil))) aNil)))) aNil)) (kName 14) b_law_6 b_law_7)) aNil)))
  (sRet (eBin dEq (oVal (eFn F_common [.e (eVar 3), .e (eVar 4)])) (oVal (eSl (oVal (eVar 3)) pNone (pSome (eVar 12))))))))))))))
noncomputable def g_lawA : Rho → SR := (sSeq (sSet 5 (eBin dIx (oVal (eLst (aCons (oVal (eCst (.int 7))) (aCons (oVal (eCst (.int 1))) (aCons (oVal (eCst (.int 0))) (aCons (oVal (eNeg (eCst (.int 1)))) aNil)))))) (oVal (eBin dMod (oVal (eCall cInt (aCons (oVal (eFn F__law_next [.s 1])) aNil))) (oVal (eCst (.int 4)))))))
  (sSeq (sFor (iRng1 (aCons (oVal (eCst (.int 5))) aNil)) (kName 6) b_law_1)
  (sSeq (sSet 7 (eLst (aCons (oVal (eFn F__law_is_word [.e (eVar 2), .e (eVar 3)])) (aCons (oVal (eFn F__law_is_word [.e (eVar 2), .e (eVar 4)])) aNil))))
  (sSeq (sSet 8 (eBin dIx (oVal (eLst (aCons (oVal (eTup (aCons (oVal (eCst (.str "refused"))) (aCons (oVal (eLst (aCons (oVal (eCst (.int 0))) (aCons (oVal (eCst (.int 1))) aNil)))) aNil)))) (aCons (oVal (eTup (aCons (oVal (eCst (.str "told"))) (aCons (oVal (eCst .none)) aNil)))) aNil)))) (oVal (eCall cInt (aCons (oVal (eBin dIx (oVal (eVar 7)) (oVal (eCst (.int 0))))) aNil)))))
  (sSeq (sIf (tOr (tBool (eBin dNe (oVal (eFn F__law_told [.e (eCst (.int 0)), .e (eVar 2), .e (eVar 3), .e (eVar 4)])) (oVal (eTup (aCons (oVal (eCst (.str "told"))) (aCons (oVal (eSl (oVal (eCst (.str "abcdef"))) pNone (pSome (eVar 2)))) aNil)))))) (tBool (eBin dNe (oVal (eCall cRepr (aCons (oVal (eFn F__law_told [.e (eCst (.int 2)), .e (eVar 2), .e (eVar 3), .e (eVar 4)])) aNil))) (oVal (eCall cRepr (aCons (oVal (eVar 8)) aNil)))))) (sRet (eCst (.bool false))) sNil)
  (sSeq (sIf (tBool (eBin dNe (oVal (eCall cRepr (aCons (oVal (eFn F__law_told [.e (eCst (.int 1)), .e (eVar 2), .e (eVar 3), .e (eVar 4)])) aNil))) (oVal (eCall cRepr (aCons (oVal (eTup (aCons (oVal (eCst (.str "told"))) (aCons (oVal (eBin dIx (oVal (eVar 7)) (oVal (eCst (.int 0))))) aNil)))) aNil))))) (sRet (eCst (.bool false))) sNil)
  (sSeq (sSet 8 (eTup (aCons (oVal (eCst (.str "refused"))) (aCons (oVal (eLst (aCons (oVal (eCst (.int 0))) (aCons (oVal (eCst (.int 1))) aNil)))) aNil))))
  (sSeq (sIf (tAnd (tTru (oVal (eBin dIx (oVal (eVar 7)) (oVal (eCst (.int 0)))))) (tTru (oVal (eBin dIx (oVal (eVar 7)) (oVal (eCst (.int 1))))))) (sSet 8 (eTup (aCons (oVal (eCst (.str "told"))) (aCons (oVal (eBin dLt2 (oVal (eFn F__law_place [.e (eVar 3)])) (oVal (eFn F__law_place [.e (eVar 4)])))) aNil)))) sNil)
  (sSeq (sIf (tBool (eBin dNe (oVal (eCall cRepr (aCons (oVal (eFn F__law_told [.e (eCst (.int 3)), .e (eVar 2), .e (eVar 3), .e (eVar 4)])) aNil))) (oVal (eCall cRepr (aCons (oVal (eVar 8)) aNil))))) (sRet (eCst (.bool false))) sNil)
  (sSeq (sSet 9 (eBin dMod (oVal (eCall cInt (aCons (oVal (eFn F__law_next [.s 1])) aNil))) (oVal (eCst (.int 4)))))
  (sSeq (sIf (tBool (eBin dNe (oVal (eCall cRepr (aCons (oVal (eFn F__law_told [.e (eCst (.int 4)), .e (eVar 2), .e (eVar 9), .e (eCst (.str ""))])) aNil))) (oVal (eCall cRepr (aCons (oVal (eTup (aCons (oVal (eCst (.str "told"))) (aCons (oVal (eFn F__law_listed [.e (eVar 2), .e (eVar 9)])) aNil)))) aNil))))) (sRet (eCst (.bool false))) sNil)
  (sSeq (sIf (tOr (tBool (eBin dNe (oVal (eFn F__law_told [.e (eCst (.int 4)), .e (eVar 2), .e (eNeg (eCst (.int 1))), .e (eCst (.str ""))])) (oVal (eTup (aCons (oVal (eCst (.str "refused"))) (aCons (oVal (eLst (aCons (oVal (eCst (.int 1))) (aCons (oVal (eCst (.int 0))) aNil)))) aNil)))))) (tBool (eBin dNe (oVal (eFn F__law_told [.e (eCst (.int 4)), .e (eVar 2), .e (eCst (.int 13)), .e (eCst (.str ""))])) (oVal (eTup (aCons (oVal (eCst (.str "refused"))) (aCons (oVal (eLst (aCons (oVal (eCst (.int 1))) (aCons (oVal (eCst (.int 0))) aNil)))) aNil))))))) (sRet (eCst (.bool false))) sNil)
  g_lawB))))))))))))
theorem law_split : g_law = (sThw 1 (sSeq (sSet 1 (eFn F__law_draws [.e (eVar 0)]))
  (sSeq (sExpr (eMut 1 mReverse aNil))
  (sSeq (sSet 2 (eBin dAdd4 (oVal (eCst (.int 2))) (oVal (eBin dMod (oVal (eCall cInt (aCons (oVal (eFn F__law_next [.s 1])) aNil))) (oVal (eCst (.int 5)))))))
  (sSeq (sSet 3 (eFn F__law_string [.s 1, .e (eVar 2), .e (eCst (.int 6))]))
  (sSeq (sSet 4 (eBin dIx (oVal (eLst (aCons (oVal (eFn F__law_string [.s 1, .e (eVar 2), .e (eCst (.int 6))])) (aCons (oVal (eBin dAdd4 (oVal (eVar 3)) (oVal (eBin dIx (oVal (eCst (.str "ab"))) (oVal (eBin dMod (oVal (eCall cInt (aCons (oVal (eFn F__law_next [.s 1])) aNil))) (oVal (eCst (.int 2))))))))) (aCons (oVal (eVar 3)) aNil))))) (oVal (eBin dMod (oVal (eCall cInt (aCons (oVal (eFn F__law_next [.s 1])) aNil))) (oVal (eCst (.int 3)))))))
  (sSeq (sIf (tBool (eBin dEq (oVal (eBin dMod (oVal (eCall cInt (aCons (oVal (eFn F__law_next [.s 1])) aNil))) (oVal (eCst (.int 8))))) (oVal (eCst (.int 1))))) (sSet 3 (eBin dAdd4 (oVal (eBin dMul5 (oVal (eCst (.str "ab"))) (oVal (eCst (.int 30))))) (oVal (eSl (oVal (eVar 3)) pNone (pSome (eCst (.int 1))))))) sNil)
  g_lawA))))))) := rfl
theorem lawB_core {a0 a1 a2 a5 a6 a7 a8 a9 w11 : Option D} {A B A2 BR C : D} {SM ST DU JS : List D} {z : Str} {n m la lb : Int}
    (s1 : dSl A none (some 2) = some A2) (s2 : dBack B = some BR)
    (c1 : compL [11] (kName 11) b_law_3 b_law_4 [A, B, A2, BR, A, .str "ff"] [a0, a1, a2, some A, some B, a5, a6, a7, a8, a9, some (.list [A, B, A2, BR, A, .str "ff"]), none, none, none, none] [] = .ok SM [a0, a1, a2, some A, some B, a5, a6, a7, a8, a9, some (.list [A, B, A2, BR, A, .str "ff"]), none, none, none, none])
    (so : cSortK F__law_place [.list SM] = some ST)
    (fe : forE (kName 11) b_law_5 ST [a0, a1, a2, some A, some B, a5, a6, a7, some (.list []), a9, some (.list SM), none, none, none, none] = .nx [a0, a1, a2, some A, some B, a5, a6, a7, some (.list DU), a9, some (.list SM), w11, none, none, none])
    (io : F_in_order [.list SM] = .ok (.list DU) [none]) (rp : cRepr [.list DU] = some (.str z)) (l1 : cLen [A] = some (.int la)) (l2 : cLen [B] = some (.int lb)) (mn : cMin [.int la, .int lb] = some (.int m)) (hR : DL.inR m = true)
    (c2 : compL [14] (kName 14) b_law_6 b_law_7 (rngD 0 m.toNat) [a0, a1, a2, some A, some B, a5, a6, a7, some (.list DU), a9, some (.list SM), w11, none, none, none] [] = .ok JS [a0, a1, a2, some A, some B, a5, a6, a7, some (.list DU), a9, some (.list SM), w11, none, none, none])
    (l3 : cLen [.list JS] = some (.int n)) (cm : F_common [A, B] = .ok C [none, none]) (s3 : dSl A none (some n) = some C) (eq : dEq C C = some (.bool true)) :
    ∃ ro, g_lawB [a0, a1, a2, some A, some B, a5, a6, a7, a8, a9, none, none, none, none, none] = .rt (.bool true) ro := by
  have z6 : 6 ≤ sizeLine := by decide
  have z0 : 0 ≤ sizeLine := by decide
  have n1 := dNe_same z
  have cl : cListA [.list SM] = some SM := rfl
  simp [g_lawB, s1, s2, c1, so, fe, io, rp, n1, l1, l2, mn, hR, c2, l3, cm, s3, eq, cl, z6, z0, dropS]
theorem lawA_core {ns A B KW S T0 T1 V2 V3 T4 KA KB LT LL W8 : D} {L0 L1 L2 : List D} {k d m d9 n9 c0 : Int} {r0 r1 : Bool} {z1 z2 z3 z4 : Str} {ro : Rho}
    (p1 : F__law_next [.list L0] = .ok (.int d) [some (.list L1)]) (p2 : dMod (.int d) (.int 4) = some (.int m)) (p3 : dIx (.list [.int 7, .int 1, .int 0, .int (-1)]) (.int m) = some KW) (hR : DL.inR 5 = true)
    (fe : forE (kName 6) b_law_1 (rngD 0 5) [some ns, some (.list L1), some (.int k), some A, some B, some KW, none, none, none, none, none, none, none, none, none] = .nx [some ns, some (.list L1), some (.int k), some A, some B, some KW, some (.int 4), none, none, none, none, none, none, none, none])
    (i0 : F__law_is_word [.int k, A] = .ok (.bool r0) [none, none]) (i1 : F__law_is_word [.int k, B] = .ok (.bool r1) [none, none]) (ci0 : cInt [.bool r0] = some (.int c0)) (x0 : dIx (.list [.bool r0, .bool r1]) (.int 0) = some (.bool r0)) (x1 : dIx (.list [.bool r0, .bool r1]) (.int 1) = some (.bool r1))
    (hRF : (PyData.tuple [.str "refused", .list [.int 0, .int 1]] : D) = W8) (hRG : (PyData.tuple [.str "refused", .list [.int 1, .int 0]] : D) = rfD 1 0)
    (x8 : dIx (.list [W8, .tuple [.str "told", .none]]) (.int c0) = some V2) (sl : dSl (.str "abcdef") none (some k) = some S) (hT0 : (PyData.tuple [.str "told", S] : D) = T0) (t0 : F__law_told [.int 0, .int k, A, B] = .ok T0 [none, none, none, none]) (n0 : dNe T0 T0 = some (.bool false))
    (t2 : F__law_told [.int 2, .int k, A, B] = .ok V2 [none, none, none, none]) (r2 : cRepr [V2] = some (.str z2)) (hT1 : (PyData.tuple [.str "told", .bool r0] : D) = T1) (t1 : F__law_told [.int 1, .int k, A, B] = .ok T1 [none, none, none, none]) (r1' : cRepr [T1] = some (.str z1))
    (ka : F__law_place [A] = .ok KA [none]) (kb : F__law_place [B] = .ok KB [none]) (lt : dLt2 KA KB = some LT) (hV3 : (if (r0 && r1) = true then PyData.tuple [.str "told", LT] else W8) = V3) (t3 : F__law_told [.int 3, .int k, A, B] = .ok V3 [none, none, none, none]) (r3 : cRepr [V3] = some (.str z3))
    (p9 : F__law_next [.list L1] = .ok (.int d9) [some (.list L2)]) (p10 : dMod (.int d9) (.int 4) = some (.int n9)) (t4 : F__law_told [.int 4, .int k, .int n9, .str ""] = .ok T4 [none, none, none, none]) (ls : F__law_listed [.int k, .int n9] = .ok LL [none, none]) (hT4 : (PyData.tuple [.str "told", LL] : D) = T4) (r4 : cRepr [T4] = some (.str z4))
    (t5 : F__law_told [.int 4, .int k, .int (-1), .str ""] = .ok (rfD 1 0) [none, none, none, none]) (t6 : F__law_told [.int 4, .int k, .int 13, .str ""] = .ok (rfD 1 0) [none, none, none, none])
    (hB : g_lawB [some ns, some (.list L2), some (.int k), some A, some B, some KW, some (.int 4), some (.list [.bool r0, .bool r1]), some V3, some (.int n9), none, none, none, none, none] = .rt (.bool true) ro) :
    g_lawA [some ns, some (.list L0), some (.int k), some A, some B, none, none, none, none, none, none, none, none, none, none] = .rt (.bool true) ro := by
  have z2' : 2 ≤ sizeLine := by decide
  have z4' : 4 ≤ sizeLine := by decide
  have n1 := dNe_same z1
  have n2 := dNe_same z2
  have n3 := dNe_same z3
  have n4 := dNe_same z4
  have ne := ne_rf
  have ci : ∀ i : Int, cInt [.int i] = some (.int i) := fun _ => rfl
  have tb : ∀ b : Bool, tru (.bool b) = some b := fun _ => rfl
  generalize rfD 1 0 = RG at *
  cases r0 <;> cases r1 <;> simp only [Bool.and_true, Bool.and_false, Bool.true_and, Bool.false_and, if_true, if_false, Bool.false_eq_true] at hV3 <;> subst hV3 <;>
    simp [g_lawA, p1, p2, p3, ci, hR, fe, i0, i1, ci0, x0, x1, hRF, hRG, x8, sl, hT0, t0, n0, t2, r2, n2, hT1, t1, r1', n1, ka, kb, lt, t3, r3, n3, p9, p10, t4, ls, hT4, r4, n4, t5, t6, ne, hB, z2', z4', tb]
end Lw
end

section
set_option maxHeartbeats 400000
namespace Lw
open PySem PySem.Spec PyProof.Rows L2 DL TL
theorem sl_take (l : List Nat) (n : Nat) (hl : l.length ≤ sizeLine) : dSl (lst l) none (some (n : Int)) = some (lst (l.take n)) := by
  by_cases h : n ≤ l.length
  · have := sl_to l (n : Int) (by omega) (by omega) hl
    rw [Int.toNat_natCast] at this
    exact this
  · rw [dSl_str (z := ⟨l.toArray⟩) (show (⟨l.toArray⟩ : Str).length ≤ sizeLine from hl)]
    have e : cutS (⟨l.toArray⟩ : Str) none (some (n : Int)) = ⟨(l.take n).toArray⟩ := by
      unfold cutS HT.sIx
      have : (⟨l.toArray⟩ : Str).length = l.length := rfl
      simp only [this]
      rw [if_neg (by omega), List.drop_zero]
      congr 2
      show (l.take _) = _
      rw [List.take_of_length_le (by omega), List.take_of_length_le (by omega)]
    rw [e]
abbrev p6 (w : List Nat) : Bool := w.all fun c => decide (c ∈ tl "abcdef")
theorem some_step {a0 a1 a2 a3 a4 a5 a6 a7 a8 a9 a10 a12 a14 : Option D} (w : List Nat) (hl : w.length ≤ 100000) : b_law_3 [a0, a1, a2, a3, a4, a5, a6, a7, a8, a9, a10, some (lst w), a12, none, a14] = .ok (p6 w) [a0, a1, a2, a3, a4, a5, a6, a7, a8, a9, a10, some (lst w), a12, none, a14] := by
  have ec := compL_mapG (vs := [13]) (k := kName 13) (t := tYesR) (f := b_law_2) sgn (fun c => .bool (decide (c ∈ tl "abcdef"))) [a0, a1, a2, a3, a4, a5, a6, a7, a8, a9, a10, some (lst w), a12, none, a14] w [] (fun c _ => ⟨[a0, a1, a2, a3, a4, a5, a6, a7, a8, a9, a10, some (lst w), a12, some (sgn c), a14], rfl, rfl, by
    have e := dIn_sgn c "abcdef"
    generalize sgn c = X at *
    simp [e], rfl⟩) (by simp; rw [size_eq]; omega)
  rw [List.nil_append] at ec
  have ea := cAll_mapG (fun c => decide (c ∈ tl "abcdef")) w
  unfold p6
  generalize tl "abcdef" = T6 at *
  generalize (w.all fun c => decide (c ∈ T6)) = b at *
  have tb : tru (.bool b) = some b := rfl
  simp [ec, ea, tb]
theorem some_eq {a0 a1 a2 a3 a4 a5 a6 a7 a8 a9 a10 : Option D} (ws : List (List Nat)) (hn : ws.length ≤ 100) (hw : ∀ w ∈ ws, w.length ≤ 100000) : compL [11] (kName 11) b_law_3 b_law_4 (ws.map lst) [a0, a1, a2, a3, a4, a5, a6, a7, a8, a9, a10, none, none, none, none] [] = .ok ((ws.filter p6).map lst) [a0, a1, a2, a3, a4, a5, a6, a7, a8, a9, a10, none, none, none, none] := by
  have e := compL_filterG (vs := [11]) (k := kName 11) (t := b_law_3) (f := b_law_4) lst lst p6 [a0, a1, a2, a3, a4, a5, a6, a7, a8, a9, a10, none, none, none, none] ws [] (fun w h => ⟨[a0, a1, a2, a3, a4, a5, a6, a7, a8, a9, a10, some (lst w), none, none, none], rfl, some_step w (hw w h), fun _ => rfl, rfl⟩) (by simp; rw [size_eq]; omega)
  exact e
theorem size_eq' {a0 a1 a2 a5 a6 a7 a8 a9 a10 a11 : Option D} (a b : List Nat) (ha : a.length ≤ 1000) (hb : b.length ≤ 1000) : ∃ JS : List D, JS.length = lcp a b ∧ compL [14] (kName 14) b_law_6 b_law_7 (rngD 0 ((min a.length b.length : Nat) : Int).toNat) [a0, a1, a2, some (lst a), some (lst b), a5, a6, a7, a8, a9, a10, a11, none, none, none] [] = .ok JS [a0, a1, a2, some (lst a), some (lst b), a5, a6, a7, a8, a9, a10, a11, none, none, none] := by
  have hl := lcp_le a b
  refine ⟨((List.range (min a.length b.length)).filter fun j => decide (j < lcp a b)).map fun j : Nat => PyData.int (j : Int), by rw [List.length_map, filter_lt]; omega, ?_⟩
  rw [Int.toNat_natCast, rng_nat]
  have e := compL_filterG (vs := [14]) (k := kName 14) (t := b_law_6) (f := b_law_7) (fun j : Nat => PyData.int (j : Int)) (fun j : Nat => PyData.int (j : Int)) (fun j => decide (j < lcp a b)) [a0, a1, a2, some (lst a), some (lst b), a5, a6, a7, a8, a9, a10, a11, none, none, none] (List.range (min a.length b.length)) [] (fun j hj => ⟨[a0, a1, a2, some (lst a), some (lst b), a5, a6, a7, a8, a9, a10, a11, none, none, some (.int (j : Int))], rfl, by
    have hj := List.mem_range.mp hj
    have ad : dAdd4 (.int (j : Int)) (.int 1) = some (.int ((j + 1 : Nat) : Int)) := rfl
    have s1 := sl_take a (j + 1) (by rw [size_eq]; omega)
    have s2 := sl_take b (j + 1) (by rw [size_eq]; omega)
    have eq := dEq_lst (a.take (j + 1)) (b.take (j + 1))
    have hd : decide (a.take (j + 1) = b.take (j + 1)) = decide (j < lcp a b) := decide_eq_decide.mpr (take_iff a b j (by omega) (by omega))
    rw [hd] at eq
    generalize ((j + 1 : Nat) : Int) = J1 at *
    generalize decide (j < lcp a b) = bb at *
    generalize lst (a.take (j + 1)) = X at *
    generalize lst (b.take (j + 1)) = Y at *
    generalize lst a = A at *
    generalize lst b = B at *
    simp [ad, s1, s2, eq], fun _ => rfl, rfl⟩) (by simp; rw [size_eq]; omega)
  exact e
theorem lawB_eq {a0 a1 a2 a5 a6 a7 a8 a9 : Option D} (a b : List Nat) (ha : a.length ≤ 1000) (hb : b.length ≤ 1000) (ca : ∀ c ∈ a, c < 128) (cb : ∀ c ∈ b, c < 128) : ∃ ro, g_lawB [a0, a1, a2, some (lst a), some (lst b), a5, a6, a7, a8, a9, none, none, none, none, none] = .rt (.bool true) ro := by
  have s1 := sl_take a 2 (by rw [size_eq]; omega)
  have s2 := back_s b (by rw [size_eq]; omega)
  have hlen : ∀ w ∈ [a, b, a.take 2, b.reverse, a, [102, 102]], w.length ≤ 1000 ∧ ∀ c ∈ w, c < 128 := by
    intro w hw
    simp only [List.mem_cons, List.not_mem_nil, or_false] at hw
    rcases hw with rfl | rfl | rfl | rfl | rfl | rfl
    · exact ⟨ha, ca⟩
    · exact ⟨hb, cb⟩
    · exact ⟨by rw [List.length_take]; omega, fun c h => ca c (List.mem_of_mem_take h)⟩
    · exact ⟨by rw [List.length_reverse]; omega, fun c h => cb c (List.mem_reverse.mp h)⟩
    · exact ⟨ha, ca⟩
    · exact ⟨by simp, by decide⟩
  have c1 := some_eq (a0 := a0) (a1 := a1) (a2 := a2) (a3 := some (lst a)) (a4 := some (lst b)) (a5 := a5) (a6 := a6) (a7 := a7) (a8 := a8) (a9 := a9) (a10 := some (.list ([a, b, a.take 2, b.reverse, a, [102, 102]].map lst))) [a, b, a.take 2, b.reverse, a, [102, 102]] (by simp) (fun w h => by have := (hlen w h).1; omega)
  have hS : ∀ w ∈ [a, b, a.take 2, b.reverse, a, [102, 102]].filter p6, w.length ≤ 1000 ∧ ∀ c ∈ w, c < 128 := fun w h => hlen w (List.mem_filter.mp h).1
  have hSn : ([a, b, a.take 2, b.reverse, a, [102, 102]].filter p6).length ≤ 6 := Nat.le_trans (List.length_filter_le _ _) (by simp)
  generalize [a, b, a.take 2, b.reverse, a, [102, 102]].filter p6 = ws at *
  have so := cSort_eq ws (by omega) (fun w h => by have := (hS w h).1; omega)
  have hM : ∀ w ∈ ws.mergeSort wle, w.length ≤ 1000 ∧ ∀ c ∈ w, c < 128 := fun w h => hS w ((List.mergeSort_perm ws wle).mem_iff.mp h)
  have hMn : (ws.mergeSort wle).length ≤ 6 := by rw [List.length_mergeSort]; exact hSn
  obtain ⟨w11, fe⟩ := so_loop (a0 := a0) (a1 := a1) (a2 := a2) (a3 := some (lst a)) (a4 := some (lst b)) (a5 := a5) (a6 := a6) (a7 := a7) (a9 := a9) (a10 := some (.list (ws.map lst))) (a12 := none) (a13 := none) (a14 := none) 1000 (ws.mergeSort wle) [] none (fun w h => ⟨(hM w h).2, (hM w h).1⟩) (fun w h => nomatch h) (by rw [List.length_nil]; omega)
  have io := in_order_eq ws (by omega) (fun w h => by have := (hS w h).1; omega)
  have hD : ∀ p ∈ dis (ws.mergeSort wle), p.length ≤ 10000 ∧ ∀ c ∈ p, c < 128 := fun p h => by have := hM p ((mem_dis _ _).mp h); exact ⟨by omega, this.2⟩
  obtain ⟨z, rp⟩ := repr_texts (dis (ws.mergeSort wle)) 6 (by decide) (Nat.le_trans (dis_len _) hMn) hD
  have l1 := cLen_l a (by omega)
  have l2 := cLen_l b (by omega)
  have mn := cMin_nat a.length b.length
  have hl := lcp_le a b
  obtain ⟨JS, hJ, c2⟩ := size_eq' (a0 := a0) (a1 := a1) (a2 := a2) (a5 := a5) (a6 := a6) (a7 := a7) (a8 := some (.list ((dis (ws.mergeSort wle)).map lst))) (a9 := a9) (a10 := some (.list (ws.map lst))) (a11 := w11) a b ha hb
  have l3 := cLen_li JS
  rw [hJ] at l3
  have cm := common_eq a b (by omega) (by omega)
  have s3 := sl_take a (lcp a b) (by rw [size_eq]; omega)
  have eq := dEq_lst (cmn a b) (cmn a b)
  rw [decide_eq_true rfl] at eq
  exact lawB_core s1 s2 c1 so fe io rp l1 l2 mn (inR_n _ (by omega)) c2 l3 cm s3 eq
theorem rg_ch (n : Nat) (hn : n ≤ 6) : ∀ L, ∀ w ∈ rgW n L, ∀ c ∈ w, c < 128
  | 0, w, h, c, hc => by rw [List.mem_singleton.mp h] at hc; cases hc
  | L + 1, w, h, c, hc => by
    obtain ⟨u, hu, hw⟩ := List.mem_flatMap.mp h
    obtain ⟨i, hi, rfl⟩ := List.mem_map.mp hw
    have hi := List.mem_range.mp hi
    rcases List.mem_append.mp hc with hc | hc
    · exact rg_ch n hn L u hu c hc
    · rw [List.mem_singleton.mp hc]; omega
theorem fine_rg {k : Int} (hk : 2 ≤ k) (hk' : k ≤ 6) {L : Nat} (hL : L ≤ 3) : Fine 1 2000 (.list ((rgW k.toNat L).map lst)) := by
  have := fine_list (n := 0) (w := 3) (ds := (rgW k.toNat L).map lst) fun d hd => by
    obtain ⟨w, hw, rfl⟩ := List.mem_map.mp hd
    exact (fine_lst (rg_ch _ (by omega) L w hw)).mono (Nat.le_refl _) (by rw [rg_mem _ _ w hw]; exact hL)
  refine this.mono (Nat.le_refl _) ?_
  rw [List.length_map]
  have := rg_few hk hk' hL
  omega
theorem repr_tl {n w : Nat} {d : D} (h : Fine n w d) (hn : n ≤ 50) (hw : w ≤ 10000) : ∃ z, cRepr [tlD d] = some (.str z) := ⟨_, fine_repr (fine_tl (h.mono (Nat.le_refl _) (Nat.le_add_right w 4)) (by omega)) (by omega) (by omega)⟩
theorem wordOk_len {k : Int} {a : List Nat} : wordOk k a = true ↔ a.length ≤ 60 ∧ a.all (lts k) = true := by unfold wordOk; rw [Bool.and_eq_true, decide_eq_true_eq]
theorem lawA_eq {ns : D} {k : Int} (hk : 2 ≤ k) (hk' : k ≤ 6) (ds : List Int) (g : Good ds) (a b : List Nat) (ha : a.length ≤ 1000) (hb : b.length ≤ 1000) (ca : ∀ c ∈ a, c < 128) (cb : ∀ c ∈ b, c < 128) : ∃ ro, g_lawA [some ns, some (ilD ds), some (.int k), some (lst a), some (lst b), none, none, none, none, none, none, none, none, none, none] = .rt (.bool true) ro := by
  have sz : sizeOk k = true := by unfold sizeOk; rw [decide_eq_true hk, decide_eq_true hk']; rfl
  obtain ⟨d, e1, p1, _, _, g1, _⟩ := next_eq ds g
  obtain ⟨m, p2, m0, m1⟩ := dMod_ex d 4 (by decide)
  have p3 : ∃ kw : Int, dIx (.list [.int 7, .int 1, .int 0, .int (-1)]) (.int m) = some (.int kw) ∧ sizeOk kw = false := by
    have mm : m = 0 ∨ m = 1 ∨ m = 2 ∨ m = 3 := by omega
    rcases mm with rfl | rfl | rfl | rfl
    · exact ⟨7, rfl, rfl⟩
    · exact ⟨1, rfl, rfl⟩
    · exact ⟨0, rfl, rfl⟩
    · exact ⟨-1, rfl, rfl⟩
  obtain ⟨kw, p3, hkw⟩ := p3
  have fe := wr_loop (ns := ns) (L := ilD e1) (K := .int k) hkw a b ha hb
  have i0 := law_is_word_eq k a (by omega)
  have i1 := law_is_word_eq k b (by omega)
  obtain ⟨d9, e2, p9, _, _, g2, _⟩ := next_eq e1 g1
  obtain ⟨n9, p10, q0, q1⟩ := dMod_ex d9 4 (by decide)
  have hn9 : ((n9.toNat : Nat) : Int) = n9 := Int.toNat_of_nonneg q0
  have wl := words_of_length_eq hk hk' n9.toNat (by omega)
  have ls := listed_eq hk hk' n9.toNat (by omega)
  rw [hn9] at wl ls
  have ka := place_eq a (by omega)
  have kb := place_eq b (by omega)
  have ka2 := key_eq a (by omega)
  have kb2 := key_eq b (by omega)
  have lt : dLt2 (.tuple [.int a.length, lst a]) (.tuple [.int b.length, lst b]) = some (.bool (decide (a.length < b.length ∨ (a.length = b.length ∧ a < b)))) := dLt2_words a b
  have c1 := check_word_eq k a (by omega)
  have c2 := check_word_eq k b (by omega)
  have w1 := is_word_eq k a (by omega)
  rw [sz, if_pos rfl] at c1 c2 w1
  have bad1 := wl_bad (check_size_ok sz) (n := -1) (.inl (by decide))
  have bad2 := wl_bad (check_size_ok sz) (n := 13) (.inr (by decide))
  have fb := fine_bool
  have sB : Fine 0 10 (.str (cutS "abcdef" none (some k)) : D) := by
    have := fine_lst (l := tl (cutS "abcdef" none (some k))) (by rw [cut_k hk hk']; intro c hc; obtain ⟨i, hi, rfl⟩ := List.mem_map.mp hc; have := List.mem_range.mp hi; omega)
    exact this.mono (Nat.le_refl _) (by rw [cut_k hk hk', List.length_map, List.length_range]; omega)
  have n0 : dNe (tlD (.str (cutS "abcdef" none (some k)))) (tlD (.str (cutS "abcdef" none (some k)))) = some (.bool false) := dNe_self (fine_tl sB (by decide)) (by decide) rfl
  obtain ⟨z1, r1⟩ := repr_tl (fb (wordOk k a)) (by omega) (by omega)
  obtain ⟨z4, r4⟩ := repr_tl (fine_rg hk hk' (L := n9.toNat) (by omega)) (by omega) (by omega)
  have rf : ∃ z, cRepr [rfD 0 1] = some (.str z) := ⟨_, fine_repr (fine_rf (by decide) (by decide)) (by omega) (by omega)⟩
  obtain ⟨zr, rf⟩ := rf
  obtain ⟨zn, rn⟩ := repr_tl fine_none (by omega) (by omega)
  obtain ⟨zb, rb⟩ := repr_tl (fb (decide (a.length < b.length ∨ (a.length = b.length ∧ a < b)))) (by omega) (by omega)
  have t0 := t0_ok (A := lst a) (B := lst b) (lo_eq sz)
  have t1 := t1_ok (B := lst b) w1
  have t4 := t4_ok (B := .str "") wl
  have t5 : F__law_told [.int 4, .int k, .int (-1), .str ""] = .ok (rfD 1 0) [none, none, none, none] := told_b (t4_x bad1)
  have t6 : F__law_told [.int 4, .int k, .int 13, .str ""] = .ok (rfD 1 0) [none, none, none, none] := told_b (t4_x bad2)
  obtain ⟨V2, z2, x8, t2, r2⟩ : ∃ V2 z2, dIx (.list [rfD 0 1, .tuple [.str "told", .none]]) (.int (if wordOk k a = true then 1 else 0)) = some V2 ∧ F__law_told [.int 2, .int k, lst a, lst b] = .ok V2 [none, none, none, none] ∧ cRepr [V2] = some (.str z2) := by
    cases h : wordOk k a with
    | true => rw [h] at c1; exact ⟨tlD .none, zn, rfl, t2_ok c1, rn⟩
    | false => rw [h] at c1; exact ⟨rfD 0 1, zr, rfl, told_w (t2_x c1), rf⟩
  obtain ⟨V3, z3, hV3, t3, r3⟩ : ∃ V3 z3, (if (wordOk k a && wordOk k b) = true then PyData.tuple [.str "told", .bool (decide (a.length < b.length ∨ (a.length = b.length ∧ a < b)))] else rfD 0 1) = V3 ∧ F__law_told [.int 3, .int k, lst a, lst b] = .ok V3 [none, none, none, none] ∧ cRepr [V3] = some (.str z3) := by
    cases h : wordOk k a with
    | false => rw [h] at c1; exact ⟨rfD 0 1, zr, rfl, told_w (t3_x (bf_x1 c1)), rf⟩
    | true =>
      rw [h] at c1
      cases h2 : wordOk k b with
      | false => rw [h2] at c2; exact ⟨rfD 0 1, zr, rfl, told_w (t3_x (bf_x2 c1 c2)), rf⟩
      | true => rw [h2] at c2; exact ⟨_, zb, rfl, t3_ok (bf_core c1 c2 ka2 kb2 lt), rb⟩
  obtain ⟨ro, hB⟩ := lawB_eq (a0 := some ns) (a1 := some (ilD e2)) (a2 := some (.int k)) (a5 := some (.int kw)) (a6 := some (.int 4)) (a7 := some (.list [.bool (wordOk k a), .bool (wordOk k b)])) (a8 := some V3) (a9 := some (.int n9)) a b ha hb ca cb
  exact ⟨ro, lawA_core p1 p2 p3 (inR_n 5 (by decide)) fe i0 i1 (cInt_b _) rfl rfl rfl rfl x8 (sl_ab k) rfl t0 n0 t2 r2 rfl t1 r1 ka kb lt hV3 t3 r3 p9 p10 t4 ls rfl r4 t5 t6 hB⟩
theorem law_core {ns A B A1 AB A' B0 X : D} {k k1 d1 d2 d3 d4 m2 m3 m4 : Int} {L0 L1 L2 L3 L4 L5 L6 L7 : List D} {AF : D} {ro : Rho}
    (p1 : F__law_draws [ns] = .ok (.list L0) [none]) (p2 : mReverse L0 [] = some (L1, .none)) (p3 : F__law_next [.list L1] = .ok (.int d1) [some (.list L2)]) (p4 : dMod (.int d1) (.int 5) = some (.int k1)) (p5 : dAdd4 (.int 2) (.int k1) = some (.int k))
    (p6 : F__law_string [.list L2, .int k, .int 6] = .ok A [some (.list L3), none, none]) (p7 : F__law_string [.list L3, .int k, .int 6] = .ok B0 [some (.list L4), none, none]) (p8 : F__law_next [.list L4] = .ok (.int d2) [some (.list L5)]) (q8 : dMod (.int d2) (.int 2) = some (.int m2)) (x1 : dIx (.str "ab") (.int m2) = some X) (ad : dAdd4 A X = some A1)
    (p9 : F__law_next [.list L5] = .ok (.int d3) [some (.list L6)]) (q9 : dMod (.int d3) (.int 3) = some (.int m3)) (x2 : dIx (.list [B0, A1, A]) (.int m3) = some B) (p10 : F__law_next [.list L6] = .ok (.int d4) [some (.list L7)]) (q10 : dMod (.int d4) (.int 8) = some (.int m4))
    (mu : dMul5 (.str "ab") (.int 30) = some AB) (s1 : dSl A none (some 1) = some A') (hAF : if m4 = 1 then dAdd4 AB A' = some AF else A = AF)
    (hA : g_lawA [some ns, some (.list L7), some (.int k), some AF, some B, none, none, none, none, none, none, none, none, none, none] = .rt (.bool true) ro) : ∃ ro, F_law [ns] = .ok (.bool true) ro := by
  have z3 : 3 ≤ sizeLine := by decide
  have ci : ∀ i : Int, cInt [.int i] = some (.int i) := fun _ => rfl
  have hg : ∃ ro, g_law [some ns, none, none, none, none, none, none, none, none, none, none, none, none, none, none] = .rt (.bool true) ro := by
    rw [law_split]
    by_cases h : m4 = 1
    · rw [if_pos h] at hAF
      have eq : dEq (.int m4) (.int 1) = some (.bool true) := by rw [dEq_int, decide_eq_true h]
      simp [p1, p2, p3, ci, p4, p5, p6, p7, p8, q8, x1, ad, p9, q9, x2, p10, q10, eq, mu, s1, hAF, hA, z3, dropS]
    · rw [if_neg h] at hAF
      subst hAF
      have eq : dEq (.int m4) (.int 1) = some (.bool false) := by rw [dEq_int, decide_eq_false h]
      simp [p1, p2, p3, ci, p4, p5, p6, p7, p8, q8, x1, ad, p9, q9, x2, p10, q10, eq, hA, z3, dropS]
  obtain ⟨ro, hg⟩ := hg
  exact ⟨_, body_ok hg⟩
theorem law_true (ns : List Int) (h : ns.length ≤ 63) : ∃ ro, F_law [ilD ns] = .ok (.bool true) ro := by
  obtain ⟨ds, p1, g⟩ := draws_eq ns h
  have p2 : mReverse (ds.map PyData.int) [] = some ((ds.reverse).map .int, .none) := by
    show some _ = _
    rw [List.map_reverse]
  obtain ⟨d1, e1, p3, _, _, g1, _⟩ := next_eq ds.reverse (good_rev g)
  obtain ⟨k1, p4, b0, b1⟩ := dMod_ex d1 5 (by decide)
  have p5 : dAdd4 (.int 2) (.int k1) = some (.int (2 + k1)) := rfl
  have hk : 2 ≤ 2 + k1 := by omega
  have hk' : 2 + k1 ≤ 6 := by omega
  generalize 2 + k1 = k at *
  obtain ⟨a, e2, p6, g2, la, ca⟩ := string_eq e1 g1 k 6 hk hk' (by decide) (by decide)
  obtain ⟨b, e3, p7, g3, lb, cb⟩ := string_eq e2 g2 k 6 hk hk' (by decide) (by decide)
  obtain ⟨d2, e4, p8, _, _, g4, _⟩ := next_eq e3 g3
  obtain ⟨m2, q8, c0, c1⟩ := dMod_ex d2 2 (by decide)
  obtain ⟨d3, e5, p9, _, _, g5, _⟩ := next_eq e4 g4
  obtain ⟨m3, q9, h0, h1⟩ := dMod_ex d3 3 (by decide)
  obtain ⟨d4, e6, p10, _, _, g6, _⟩ := next_eq e5 g5
  obtain ⟨m4, q10, i0, i1⟩ := dMod_ex d4 8 (by decide)
  obtain ⟨x, x1, hx⟩ : ∃ x : Nat, dIx (.str "ab") (.int m2) = some (sgn x) ∧ x < 128 := by
    have mm : m2 = 0 ∨ m2 = 1 := by omega
    rcases mm with rfl | rfl
    · exact ⟨97, rfl, by decide⟩
    · exact ⟨98, rfl, by decide⟩
  have ad : dAdd4 (lst a) (sgn x) = some (lst (a ++ [x])) := dAdd4_l a [x] (by rw [size_eq]; simp; omega)
  obtain ⟨w, x2, lw, cw⟩ : ∃ w : List Nat, dIx (.list [lst b, lst (a ++ [x]), lst a]) (.int m3) = some (lst w) ∧ w.length ≤ 10 ∧ ∀ c ∈ w, c < 128 := by
    have mm : m3 = 0 ∨ m3 = 1 ∨ m3 = 2 := by omega
    rcases mm with rfl | rfl | rfl
    · exact ⟨b, rfl, by omega, cb⟩
    · exact ⟨a ++ [x], rfl, by simp; omega, fun c hc => by
        rcases List.mem_append.mp hc with hc | hc
        · exact ca c hc
        · rw [List.mem_singleton.mp hc]; exact hx⟩
    · exact ⟨a, rfl, by omega, ca⟩
  obtain ⟨AB, mu, lAB, cAB⟩ : ∃ u : List Nat, dMul5 (.str "ab") (.int 30) = some (lst u) ∧ u.length = 60 ∧ ∀ c ∈ u, c < 128 := ⟨(List.replicate 30 [97, 98]).flatten, by rfl, by decide, by decide⟩
  have s1 := sl_take a 1 (by rw [size_eq]; omega)
  obtain ⟨af, hAF, laf, caf⟩ : ∃ af : List Nat, (if m4 = 1 then dAdd4 (lst AB) (lst (a.take 1)) = some (lst af) else lst a = lst af) ∧ af.length ≤ 100 ∧ ∀ c ∈ af, c < 128 := by
    by_cases h : m4 = 1
    · refine ⟨AB ++ a.take 1, by rw [if_pos h]; exact dAdd4_l _ _ (by rw [size_eq, List.length_take]; omega), by rw [List.length_append, List.length_take]; omega, fun c hc => ?_⟩
      rcases List.mem_append.mp hc with hc | hc
      · exact cAB c hc
      · exact ca c (List.mem_of_mem_take hc)
    · exact ⟨a, by rw [if_neg h], by omega, ca⟩
  obtain ⟨ro, hA⟩ := lawA_eq (ns := ilD ns) hk hk' e6 g6 af w (by omega) (by omega) caf cw
  exact law_core p1 p2 p3 p4 p5 p6 p7 p8 q8 x1 ad p9 q9 x2 p10 q10 mu s1 hAF hA
end Lw
end

section
set_option maxHeartbeats 2000000
namespace Lw
open PySem PySem.Spec PyProof.Rows L2 DL
def top (i : Nat) : Stmt := PySem.Challenge.pw_soundturns_k00_words_and_their_order.main.body.getD i (.Pass ⟨0, 0, 0, 0⟩)
abbrev st_check_size : Stmt := top 8
abbrev N_check_size : List Str := ["k"]
theorem sc_check_size : FnScope N_check_size ["k"] (defScope st_check_size) := ⟨rfl, rfl, rfl, by decide +kernel, rfl, by decide +kernel, by decide +kernel⟩
abbrev st_has_letters : Stmt := top 10
abbrev N_has_letters : List Str := ["k", "word", "letter"]
theorem sc_has_letters : FnScope N_has_letters ["k", "word"] (defScope st_has_letters) := ⟨rfl, rfl, rfl, by decide +kernel, rfl, by decide +kernel, by decide +kernel⟩
abbrev st_key_of : Stmt := top 13
abbrev N_key_of : List Str := ["word"]
theorem sc_key_of : FnScope N_key_of ["word"] (defScope st_key_of) := ⟨rfl, rfl, rfl, by decide +kernel, rfl, by decide +kernel, by decide +kernel⟩
abbrev st_common : Stmt := top 17
abbrev N_common : List Str := ["one", "other", "size"]
theorem sc_common : FnScope N_common ["one", "other"] (defScope st_common) := ⟨rfl, rfl, rfl, by decide +kernel, rfl, by decide +kernel, by decide +kernel⟩
abbrev st__law_number : Stmt := top 19
abbrev N__law_number : List Str := ["_law_cell"]
theorem sc__law_number : FnScope N__law_number ["_law_cell"] (defScope st__law_number) := ⟨rfl, rfl, rfl, by decide +kernel, rfl, by decide +kernel, by decide +kernel⟩
abbrev st__law_next : Stmt := top 21
abbrev N__law_next : List Str := ["_law_draws_here"]
theorem sc__law_next : FnScope N__law_next ["_law_draws_here"] (defScope st__law_next) := ⟨rfl, rfl, rfl, by decide +kernel, rfl, by decide +kernel, by decide +kernel⟩
abbrev st__law_is_word : Stmt := top 24
abbrev N__law_is_word : List Str := ["_law_k", "_law_word", "_law_letter"]
theorem sc__law_is_word : FnScope N__law_is_word ["_law_k", "_law_word"] (defScope st__law_is_word) := ⟨rfl, rfl, rfl, by decide +kernel, rfl, by decide +kernel, by decide +kernel⟩
abbrev st__law_place : Stmt := top 25
abbrev N__law_place : List Str := ["_law_word"]
theorem sc__law_place : FnScope N__law_place ["_law_word"] (defScope st__law_place) := ⟨rfl, rfl, rfl, by decide +kernel, rfl, by decide +kernel, by decide +kernel⟩
abbrev st__law_listed : Stmt := top 26
abbrev N__law_listed : List Str := ["_law_k", "_law_length", "_law_words", "_law_j", "_law_longer", "_law_word", "_law_letter"]
theorem sc__law_listed : FnScope N__law_listed ["_law_k", "_law_length"] (defScope st__law_listed) := ⟨rfl, rfl, rfl, by decide +kernel, rfl, by decide +kernel, by decide +kernel⟩
abbrev st_letters_of : Stmt := top 9
abbrev N_letters_of : List Str := ["k"]
theorem sc_letters_of : FnScope N_letters_of ["k"] (defScope st_letters_of) := ⟨rfl, rfl, rfl, by decide +kernel, rfl, by decide +kernel, by decide +kernel⟩
abbrev st_is_word : Stmt := top 11
abbrev N_is_word : List Str := ["k", "word"]
theorem sc_is_word : FnScope N_is_word ["k", "word"] (defScope st_is_word) := ⟨rfl, rfl, rfl, by decide +kernel, rfl, by decide +kernel, by decide +kernel⟩
abbrev st_words_of_length : Stmt := top 16
abbrev N_words_of_length : List Str := ["k", "length", "words", "_", "word", "letter"]
theorem sc_words_of_length : FnScope N_words_of_length ["k", "length"] (defScope st_words_of_length) := ⟨rfl, rfl, rfl, by decide +kernel, rfl, by decide +kernel, by decide +kernel⟩
abbrev st__law_draws : Stmt := top 20
abbrev N__law_draws : List Str := ["_law_script", "_law_draws_here", "_law_cell", "_law_rest", "_law_k", "_law_once", "_law_twice"]
theorem sc__law_draws : FnScope N__law_draws ["_law_script"] (defScope st__law_draws) := ⟨rfl, rfl, rfl, by decide +kernel, rfl, by decide +kernel, by decide +kernel⟩
abbrev st__law_string : Stmt := top 22
abbrev N__law_string : List Str := ["_law_draws_here", "_law_k", "_law_most", "_law_signs", "_law_j"]
theorem sc__law_string : FnScope N__law_string ["_law_draws_here", "_law_k", "_law_most"] (defScope st__law_string) := ⟨rfl, rfl, rfl, by decide +kernel, rfl, by decide +kernel, by decide +kernel⟩
abbrev st_check_word : Stmt := top 12
abbrev N_check_word : List Str := ["k", "word"]
theorem sc_check_word : FnScope N_check_word ["k", "word"] (defScope st_check_word) := ⟨rfl, rfl, rfl, by decide +kernel, rfl, by decide +kernel, by decide +kernel⟩
abbrev st_is_before : Stmt := top 14
abbrev N_is_before : List Str := ["k", "one", "other"]
theorem sc_is_before : FnScope N_is_before ["k", "one", "other"] (defScope st_is_before) := ⟨rfl, rfl, rfl, by decide +kernel, rfl, by decide +kernel, by decide +kernel⟩
abbrev st_in_order : Stmt := top 15
abbrev N_in_order : List Str := ["words", "word"]
theorem sc_in_order : FnScope N_in_order ["words"] (defScope st_in_order) := ⟨rfl, rfl, rfl, by decide +kernel, rfl, by decide +kernel, by decide +kernel⟩
abbrev st__law_told : Stmt := top 23
abbrev N__law_told : List Str := ["_law_way", "_law_k", "_law_one", "_law_other", "error"]
theorem sc__law_told : FnScope N__law_told ["_law_way", "_law_k", "_law_one", "_law_other"] (defScope st__law_told) := ⟨rfl, rfl, rfl, by decide +kernel, rfl, by decide +kernel, by decide +kernel⟩
abbrev st_law : Stmt := top 27
abbrev N_law : List Str := ["_law_script", "_law_draws_here", "_law_k", "_law_one", "_law_other", "_law_wrong", "_law_way", "_law_right", "_law_due", "_law_length", "_law_some", "_law_word", "_law_size", "_law_sign", "_law_j"]
theorem sc_law : FnScope N_law ["_law_script"] (defScope st_law) := ⟨rfl, rfl, rfl, by decide +kernel, rfl, by decide +kernel, by decide +kernel⟩
structure Txt (K : PySem.W.Frag) (mg : Str → Option Value) : Prop where
  d_check_size : At K mg "check_size" st_check_size
  d_has_letters : At K mg "has_letters" st_has_letters
  d_key_of : At K mg "key_of" st_key_of
  d_common : At K mg "common" st_common
  d__law_number : At K mg "_law_number" st__law_number
  d__law_next : At K mg "_law_next" st__law_next
  d__law_is_word : At K mg "_law_is_word" st__law_is_word
  d__law_place : At K mg "_law_place" st__law_place
  d__law_listed : At K mg "_law_listed" st__law_listed
  d_letters_of : At K mg "letters_of" st_letters_of
  d_is_word : At K mg "is_word" st_is_word
  d_words_of_length : At K mg "words_of_length" st_words_of_length
  d__law_draws : At K mg "_law_draws" st__law_draws
  d__law_string : At K mg "_law_string" st__law_string
  d_check_word : At K mg "check_word" st_check_word
  d_is_before : At K mg "is_before" st_is_before
  d_in_order : At K mg "in_order" st_in_order
  d__law_told : At K mg "_law_told" st__law_told
  d_law : At K mg "law" st_law
  b_len : mg "len" = none
  b_all : mg "all" = none
  b_min : mg "min" = none
  b_range : mg "range" = none
  b_int : mg "int" = none
  b_sorted : mg "sorted" = none
  b_isinstance : mg "isinstance" = none
  b_repr : mg "repr" = none
  b_list : mg "list" = none
  c_LETTERS : ∃ t, mg "LETTERS" = some (.str "abcdef" t)
  c_MOST_LETTERS : ∃ t, mg "MOST_LETTERS" = some (.int (60) t)
  c_MOST_LISTED : ∃ t, mg "MOST_LISTED" = some (.int (4096) t)
  e_BadNumber : Ec K mg "BadNumber"
  e_NotWord : Ec K mg "NotWord"
  e_ShiftError : Ec K mg "ShiftError"
  m_BadNumber_ShiftError : PySem.W.exmOne K (.ref (He.ga K "BadNumber")) (.ref (He.ga K "ShiftError")) = some true
  m_NotWord_ShiftError : PySem.W.exmOne K (.ref (He.ga K "NotWord")) (.ref (He.ga K "ShiftError")) = some true
  x_BadNumber : ExcC K (He.ga K "BadNumber")
  x_NotWord : ExcC K (He.ga K "NotWord")
  k_BadNumber_NotWord : PySem.W.kitOne K (.ref (He.ga K "BadNumber")) (.ref (He.ga K "NotWord")) = some false
  k_NotWord_NotWord : PySem.W.kitOne K (.ref (He.ga K "NotWord")) (.ref (He.ga K "NotWord")) = some true
  k_BadNumber_BadNumber : PySem.W.kitOne K (.ref (He.ga K "BadNumber")) (.ref (He.ga K "BadNumber")) = some true
  k_NotWord_BadNumber : PySem.W.kitOne K (.ref (He.ga K "NotWord")) (.ref (He.ga K "BadNumber")) = some false
theorem tabOk_ShiftError {K : PySem.W.Frag} {mg : Str → Option Value} (T : Txt K mg) : TabOk K mg (.ref (He.ga K "ShiftError")) tab_ShiftError := (tabOk_cons T.e_BadNumber.g T.m_BadNumber_ShiftError (tabOk_cons T.e_NotWord.g T.m_NotWord_ShiftError tabOk_nil))
theorem isOk_NotWord {K : PySem.W.Frag} {mg : Str → Option Value} (T : Txt K mg) : isTab K mg (He.ga K "NotWord") is_NotWord := (isOk_cons T.e_BadNumber.g T.k_BadNumber_NotWord T.x_BadNumber (isOk_cons T.e_NotWord.g T.k_NotWord_NotWord T.x_NotWord isOk_nil))
theorem isOk_BadNumber {K : PySem.W.Frag} {mg : Str → Option Value} (T : Txt K mg) : isTab K mg (He.ga K "BadNumber") is_BadNumber := (isOk_cons T.e_BadNumber.g T.k_BadNumber_BadNumber T.x_BadNumber (isOk_cons T.e_NotWord.g T.k_NotWord_BadNumber T.x_NotWord isOk_nil))
section
variable {P : Program} {w : World} {K : PySem.W.Frag} {mg : Str → Option Value} {base : Heap}
theorem ok_check_size (T : Txt K mg) : Ok P w K mg base 1 "check_size" ["k"] pm_check_size .pur 1 F_check_size :=
  ok_of (ms := ms_check_size) T.d_check_size sc_check_size (fun _ _ _ _ _ _ us hl => match us, hl with | [_], _ => rfl) rfl rfl (msOf_app rfl) (.inl rfl) fun cdv A outer s H E hr hgd tk =>
    (css_one (cs_if (ct_not (ct_chain or_le or_le sr_le sr_le (co_val ce_int) (co_val (ce_var 0)) (co_val (ce_callB cr_len sc_len T.b_len bt_len (ca_cons (co_val (ce_globS T.c_LETTERS)) ca_nil))))) (css_one (cs_raise T.e_BadNumber tk)) css_nil))

theorem ok_has_letters (T : Txt K mg) : Ok P w K mg base 1 "has_letters" ["k", "word"] pm_has_letters .pur 2 F_has_letters :=
  ok_of (ms := ms_has_letters) T.d_has_letters sc_has_letters (fun _ _ _ _ _ _ us hl => match us, hl with | [_, _], _ => rfl) rfl rfl (msOf_app rfl) (.inl rfl) fun cdv A outer s H E hr hgd tk =>
    (css_one (cs_ret (ce_callB (cr_all rfl) sc_all T.b_all bt_all (ca_cons (co_val (ce_own (ceo_lc (own := [("letter", 2)]) rfl sc_has_letters.nd (ci_any (ce_var 1)) (blkOk_by (N := N_has_letters) (sc := defScope st_has_letters) (by decide +kernel)) (fun _ _ _ _ _ => (cg_name (ms := ms_has_letters) 2 sc_has_letters.nd)) (fun _ _ _ _ _ => cts_nil) (fun _ _ _ _ _ => (ce_cmp (or_in hr.units hr.units65) sr_in (by rfl) (co_val (ce_var 2)) (co_val (ce_sl (co_val (ce_globS T.c_LETTERS)) cp_none (cp_some (ce_var 0))))))))) ca_nil))))

theorem ok_key_of (T : Txt K mg) : Ok P w K mg base 1 "key_of" ["word"] pm_key_of .pur 1 F_key_of :=
  ok_of (ms := ms_key_of) T.d_key_of sc_key_of (fun _ _ _ _ _ _ us hl => match us, hl with | [_], _ => rfl) rfl rfl (msOf_app rfl) (.inl rfl) fun cdv A outer s H E hr hgd tk =>
    (css_one (cs_ret (ce_tup (ca_cons (co_val (ce_callB cr_len sc_len T.b_len bt_len (ca_cons (co_val (ce_var 0)) ca_nil))) (ca_cons (co_val (ce_var 0)) ca_nil)))))

theorem ok_common (T : Txt K mg) : Ok P w K mg base 1 "common" ["one", "other"] pm_common .pur 2 F_common :=
  ok_of (ms := ms_common) T.d_common sc_common (fun _ _ _ _ _ _ us hl => match us, hl with | [_, _], _ => rfl) rfl rfl (msOf_app rfl) (.inl rfl) fun cdv A outer s H E hr hgd tk =>
    (css_cons (cs_set 2 sc_common.nd ce_int)
    (css_cons (cs_while (passes_of rfl) (ct_of (cw_and (ct_cmp or_lt sr_lt (nomark _) (co_val (ce_var 2)) (co_val (ce_callB (call_min2 rfl) sc_min T.b_min bt_min (ca_cons (co_val (ce_callB cr_len sc_len T.b_len bt_len (ca_cons (co_val (ce_var 0)) ca_nil))) (ca_cons (co_val (ce_callB cr_len sc_len T.b_len bt_len (ca_cons (co_val (ce_var 1)) ca_nil))) ca_nil))))) (cw_and1 (ct_cmp (or_eq hr.units) sr_eq (nomark _) (co_val (ce_ix (co_val (ce_var 0)) (co_val (ce_var 2)))) (co_val (ce_ix (co_val (ce_var 1)) (co_val (ce_var 2)))))))) (css_one (cs_aug 2 sc_common.nd (co_val ce_int) ip_addD si_add)))
    (css_one (cs_ret (ce_sl (co_val (ce_var 0)) cp_none (cp_some (ce_var 2)))))))

theorem ok__law_number (T : Txt K mg) : Ok P w K mg base 1 "_law_number" ["_law_cell"] pm__law_number .pur 1 F__law_number :=
  ok_of (ms := ms__law_number) T.d__law_number sc__law_number (fun _ _ _ _ _ _ us hl => match us, hl with | [_], _ => rfl) rfl rfl (msOf_app rfl) (.inl rfl) fun cdv A outer s H E hr hgd tk =>
    (css_cons (cs_if (ct_cmp or_lt sr_lt (nomark _) (co_val (ce_var 0)) (co_val ce_int)) (css_one (cs_ret (ce_bin op_sub sr_sub (co_val ce_int) (co_val (ce_var 0))))) css_nil)
    (css_one (cs_ret (ce_var 0))))

theorem ok__law_next (T : Txt K mg) : Ok P w K mg base 1 "_law_next" ["_law_draws_here"] pm__law_next .pur 1 F__law_next :=
  ok_of (ms := ms__law_next) T.d__law_next sc__law_next (fun _ _ _ _ _ _ us hl => match us, hl with | [_], _ => rfl) rfl rfl (msOf_app rfl) (.inl rfl) fun cdv A outer s H E hr hgd tk =>
    (css_cons (cs_if (ct_tru (co_slot 0)) (css_one (cs_ret (ce_mut0 (i := 0) rfl PySem.F.slot_list_pop PySem.F.type_list_pop mt_pop sx_pop))) css_nil)
    (css_one (cs_ret ce_int)))

theorem ok__law_is_word (T : Txt K mg) : Ok P w K mg base 1 "_law_is_word" ["_law_k", "_law_word"] pm__law_is_word .pur 2 F__law_is_word :=
  ok_of (ms := ms__law_is_word) T.d__law_is_word sc__law_is_word (fun _ _ _ _ _ _ us hl => match us, hl with | [_, _], _ => rfl) rfl rfl (msOf_app rfl) (.inl rfl) fun cdv A outer s H E hr hgd tk =>
    (css_one (cs_ret (ce_and (ce_cmp or_lt sr_lt (nomark _) (co_val (ce_callB cr_len sc_len T.b_len bt_len (ca_cons (co_val (ce_var 1)) ca_nil))) (co_val ce_int)) (ce_one (ce_callB (cr_all rfl) sc_all T.b_all bt_all (ca_cons (co_val (ce_own (ceo_lc (own := [("_law_letter", 2)]) rfl sc__law_is_word.nd (ci_any (ce_var 1)) (blkOk_by (N := N__law_is_word) (sc := defScope st__law_is_word) (by decide +kernel)) (fun _ _ _ _ _ => (cg_name (ms := ms__law_is_word) 2 sc__law_is_word.nd)) (fun _ _ _ _ _ => cts_nil) (fun _ _ _ _ _ => (ce_cmp (or_in hr.units hr.units65) sr_in (by rfl) (co_val (ce_var 2)) (co_val (ce_sl (co_val ce_str) cp_none (cp_some (ce_var 0))))))))) ca_nil))))))

theorem ok__law_place (T : Txt K mg) : Ok P w K mg base 1 "_law_place" ["_law_word"] pm__law_place .pur 1 F__law_place :=
  ok_of (ms := ms__law_place) T.d__law_place sc__law_place (fun _ _ _ _ _ _ us hl => match us, hl with | [_], _ => rfl) rfl rfl (msOf_app rfl) (.inl rfl) fun cdv A outer s H E hr hgd tk =>
    (css_one (cs_ret (ce_tup (ca_cons (co_val (ce_callB cr_len sc_len T.b_len bt_len (ca_cons (co_val (ce_var 0)) ca_nil))) (ca_cons (co_val (ce_var 0)) ca_nil)))))

theorem ok__law_listed (T : Txt K mg) : Ok P w K mg base 1 "_law_listed" ["_law_k", "_law_length"] pm__law_listed .pur 2 F__law_listed :=
  ok_of (ms := ms__law_listed) T.d__law_listed sc__law_listed (fun _ _ _ _ _ _ us hl => match us, hl with | [_, _], _ => rfl) rfl rfl (msOf_app rfl) (.inl rfl) fun cdv A outer s H E hr hgd tk =>
    (css_cons (cs_set 2 sc__law_listed.nd (ce_own (ceo_lst (ca_cons (co_val ce_str) ca_nil))))
    (css_cons (cs_for (passes_of rfl) rfl (ci_rng1 T.b_range (ca_cons (co_val (ce_var 1)) ca_nil)) (cg_name (ms := ms__law_listed) 3 sc__law_listed.nd) (css_cons (cs_set 4 sc__law_listed.nd (ce_own (ceo_lst ca_nil)))
    (css_cons (cs_for (passes_of rfl) rfl (ci_any (ce_var 2)) (cg_name (ms := ms__law_listed) 5 sc__law_listed.nd) (css_one (cs_set 4 sc__law_listed.nd (ce_bin or_add4 sr_add4 (co_val (ce_var 4)) (co_val (ce_own (ceo_lc (own := [("_law_letter", 6)]) rfl sc__law_listed.nd (ci_any (ce_sl (co_val ce_str) cp_none (cp_some (ce_var 0)))) (blkOk_by (N := N__law_listed) (sc := defScope st__law_listed) (by decide +kernel)) (fun _ _ _ _ _ => (cg_name (ms := ms__law_listed) 6 sc__law_listed.nd)) (fun _ _ _ _ _ => cts_nil) (fun _ _ _ _ _ => (ce_bin or_add4 sr_add4 (co_val (ce_var 5)) (co_val (ce_var 6)))))))))))
    (css_one (cs_set 2 sc__law_listed.nd (ce_var 4))))))
    (css_one (cs_ret (ce_var 2)))))

theorem ok_letters_of (T : Txt K mg) : Ok P w K mg base 2 "letters_of" ["k"] pm_letters_of .pur 1 F_letters_of :=
  ok_of (ms := ms_letters_of) T.d_letters_of sc_letters_of (fun _ _ _ _ _ _ us hl => match us, hl with | [_], _ => rfl) rfl rfl (msOf_app rfl) (.inl rfl) fun cdv A outer s H E hr hgd tk =>
    (css_cons (cs_expr (ce_call (as := [.e (eVar 0)]) (ok_check_size T) hr hgd tk (by decide) (ca_cons (co_val (ce_var 0)) ca_nil)))
    (css_one (cs_ret (ce_sl (co_val (ce_globS T.c_LETTERS)) cp_none (cp_some (ce_var 0))))))

theorem ok_is_word (T : Txt K mg) : Ok P w K mg base 2 "is_word" ["k", "word"] pm_is_word .pur 2 F_is_word :=
  ok_of (ms := ms_is_word) T.d_is_word sc_is_word (fun _ _ _ _ _ _ us hl => match us, hl with | [_, _], _ => rfl) rfl rfl (msOf_app rfl) (.inl rfl) fun cdv A outer s H E hr hgd tk =>
    (css_cons (cs_expr (ce_call (as := [.e (eVar 0)]) (ok_check_size T) hr hgd tk (by decide) (ca_cons (co_val (ce_var 0)) ca_nil)))
    (css_one (cs_ret (ce_and (ce_cmp or_le sr_le (nomark _) (co_val (ce_callB cr_len sc_len T.b_len bt_len (ca_cons (co_val (ce_var 1)) ca_nil))) (co_val (ce_globI T.c_MOST_LETTERS))) (ce_one (ce_call (as := [.e (eVar 0), .e (eVar 1)]) (ok_has_letters T) hr hgd tk (by decide) (ca_cons (co_val (ce_var 0)) (ca_cons (co_val (ce_var 1)) ca_nil))))))))

theorem ok_words_of_length (T : Txt K mg) : Ok P w K mg base 2 "words_of_length" ["k", "length"] pm_words_of_length .pur 2 F_words_of_length :=
  ok_of (ms := ms_words_of_length) T.d_words_of_length sc_words_of_length (fun _ _ _ _ _ _ us hl => match us, hl with | [_, _], _ => rfl) rfl rfl (msOf_app rfl) (.inl rfl) fun cdv A outer s H E hr hgd tk =>
    (css_cons (cs_expr (ce_call (as := [.e (eVar 0)]) (ok_check_size T) hr hgd tk (by decide) (ca_cons (co_val (ce_var 0)) ca_nil)))
    (css_cons (cs_if (ct_not (ct_chain or_le or_le sr_le sr_le (co_val ce_int) (co_val (ce_var 1)) (co_val ce_int))) (css_one (cs_raise T.e_BadNumber tk)) css_nil)
    (css_cons (cs_set 2 sc_words_of_length.nd (ce_own (ceo_lst (ca_cons (co_val ce_str) ca_nil))))
    (css_cons (cs_for (passes_of rfl) rfl (ci_rng1 T.b_range (ca_cons (co_val (ce_var 1)) ca_nil)) (cg_name (ms := ms_words_of_length) 3 sc_words_of_length.nd) (css_cons (cs_setLc2 2 (own := [("word", 4), ("letter", 5)]) rfl sc_words_of_length.nd (ci_any (ce_var 2)) (blkOk_by (N := N_words_of_length) (sc := defScope st_words_of_length) (by decide +kernel)) (fun _ _ _ _ _ => (cg_name (ms := ms_words_of_length) 4 sc_words_of_length.nd)) (fun _ _ _ _ _ => cts_nil) (fun _ _ _ _ _ => (ci_any (ce_sl (co_val (ce_globS T.c_LETTERS)) cp_none (cp_some (ce_var 0))))) (fun _ _ _ _ _ => (cg_name (ms := ms_words_of_length) 5 sc_words_of_length.nd)) (fun _ _ _ _ _ => cts_nil) (fun _ _ _ _ _ => (ce_bin or_add4 sr_add4 (co_val (ce_var 4)) (co_val (ce_var 5)))) (sh := .pur) (hok := .inr rfl))
    (css_one (cs_if (ct_cmp or_gt sr_gt (nomark _) (co_val (ce_callB cr_len sc_len T.b_len bt_len (ca_cons (co_val (ce_var 2)) ca_nil))) (co_val (ce_globI T.c_MOST_LISTED))) (css_one (cs_raise T.e_BadNumber tk)) css_nil))))
    (css_one (cs_ret (ce_var 2)))))))

theorem ok__law_draws (T : Txt K mg) : Ok P w K mg base 2 "_law_draws" ["_law_script"] pm__law_draws .lst 1 F__law_draws :=
  ok_of (ms := ms__law_draws) T.d__law_draws sc__law_draws (fun _ _ _ _ _ _ us hl => match us, hl with | [_], _ => rfl) rfl rfl (msOf_app rfl) (.inr fun ds r => (show Nnx g__law_draws from (nnx_thw (nnx_seq (nnx_seq nnx_ret)))) _ r) fun cdv A outer s H E hr hgd tk =>
    (css_thw 1 (css_cons (cs_setO 1 sc__law_draws.nd (ceo_lst ca_nil))
    (css_cons (cs_for (passes_of rfl) rfl (ci_any (ce_var 0)) (cg_name (ms := (msL ms__law_draws 1)) 2 sc__law_draws.nd) (css_cons (cs_set 3 sc__law_draws.nd (ce_call (as := [.e (eVar 2)]) (ok__law_number T) hr hgd tk (by decide) (ca_cons (co_val (ce_var 2)) ca_nil)))
    (css_one (cs_if (ct_cmp or_ge sr_ge (nomark _) (co_val (ce_var 3)) (co_val ce_int)) (css_one (cs_for (passes_of rfl) rfl (ci_rng1 T.b_range (ca_cons (co_val ce_int) ca_nil)) (cg_name (ms := (msL ms__law_draws 1)) 4 sc__law_draws.nd) (css_cons (cs_if (ct_cmp (or_eq hr.units) sr_eq (nomark _) (co_val (ce_var 3)) (co_val ce_int)) (css_one cs_break) css_nil)
    (css_cons (cs_expr (ce_mut (i := 1) rfl PySem.F.slot_list_append PySem.F.type_list_append mt_append sx_append (ca_cons (co_val (ce_bin op_mod sr_mod (co_val (ce_callTy cr_int sc_int T.b_int bt_int (ca_cons (co_val (ce_var 3)) ca_nil))) (co_val ce_int))) ca_nil)))
    (css_one (cs_set 3 sc__law_draws.nd (ce_bin op_fdiv sr_fdiv (co_val (ce_var 3)) (co_val ce_int)))))))) (css_cons (cs_set 5 sc__law_draws.nd (ce_bin op_mod sr_mod (co_val (ce_callTy cr_int sc_int T.b_int bt_int (ca_cons (co_val (ce_bin or_add4 sr_add4 (co_val (ce_bin or_mul5 sr_mul5 (co_val (ce_var 3)) (co_val ce_int))) (co_val ce_int))) ca_nil))) (co_val ce_int)))
    (css_cons (cs_set 6 sc__law_draws.nd (ce_bin op_mod sr_mod (co_val (ce_callTy cr_int sc_int T.b_int bt_int (ca_cons (co_val (ce_bin or_add4 sr_add4 (co_val (ce_bin or_mul5 sr_mul5 (co_val (ce_var 5)) (co_val ce_int))) (co_val (ce_var 3)))) ca_nil))) (co_val ce_int)))
    (css_one (cs_expr (ce_mut (i := 1) rfl PySem.F.slot_list_extend PySem.F.type_list_extend mt_extendD sx_extend (ca_cons (co_val (ce_own (ceo_lst (ca_cons (co_val (ce_bin op_mod sr_mod (co_val (ce_callTy cr_int sc_int T.b_int bt_int (ca_cons (co_val (ce_var 3)) ca_nil))) (co_val ce_int))) (ca_cons (co_val (ce_bin op_mod sr_mod (co_val (ce_callTy cr_int sc_int T.b_int bt_int (ca_cons (co_val (ce_var 5)) ca_nil))) (co_val ce_int))) (ca_cons (co_val (ce_bin op_mod sr_mod (co_val (ce_callTy cr_int sc_int T.b_int bt_int (ca_cons (co_val (ce_var 6)) ca_nil))) (co_val ce_int))) ca_nil)))))) ca_nil))))))))))
    (css_one (cs_retO (ceo_mv 1))))))

theorem ok__law_string (T : Txt K mg) : Ok P w K mg base 2 "_law_string" ["_law_draws_here", "_law_k", "_law_most"] pm__law_string .pur 3 F__law_string :=
  ok_of (ms := ms__law_string) T.d__law_string sc__law_string (fun _ _ _ _ _ _ us hl => match us, hl with | [_, _, _], _ => rfl) rfl rfl (msOf_app rfl) (.inl rfl) fun cdv A outer s H E hr hgd tk =>
    (css_cons (cs_set 3 sc__law_string.nd (ce_bin or_add4 sr_add4 (co_val (ce_sl (co_val ce_str) cp_none (cp_some (ce_var 1)))) (co_val (ce_ix (co_val (ce_own (ceo_lst (ca_cons (co_val ce_str) (ca_cons (co_val ce_str) ca_nil))))) (co_val (ce_callTy cr_int sc_int T.b_int bt_int (ca_cons (co_val (ce_cmp (or_eq hr.units) sr_eq (nomark _) (co_val (ce_bin op_mod sr_mod (co_val (ce_callTy cr_int sc_int T.b_int bt_int (ca_cons (co_val (ce_call (as := [.s 0]) (ok__law_next T) hr hgd tk (by decide) (ca_cons (co_slot 0) ca_nil))) ca_nil))) (co_val ce_int))) (co_val ce_int))) ca_nil)))))))
    (css_one (cs_ret (ce_meth PySem.F.plainAttrs_str PySem.F.slot_str_join PySem.F.type_str_join mt_join sm_join (co_val ce_str) (ca_cons (co_val (ce_own (ceo_lc (own := [("_law_j", 4)]) rfl sc__law_string.nd (ci_rng1 T.b_range (ca_cons (co_val (ce_bin op_mod sr_mod (co_val (ce_callTy cr_int sc_int T.b_int bt_int (ca_cons (co_val (ce_call (as := [.s 0]) (ok__law_next T) hr hgd tk (by decide) (ca_cons (co_slot 0) ca_nil))) ca_nil))) (co_val (ce_bin or_add4 sr_add4 (co_val (ce_var 2)) (co_val ce_int))))) ca_nil)) (blkOk_by (N := N__law_string) (sc := defScope st__law_string) (by decide +kernel)) (fun _ _ _ _ _ => (cg_name (ms := ms__law_string) 4 sc__law_string.nd)) (fun _ _ _ _ _ => cts_nil) (fun _ _ _ _ _ => (ce_ix (co_val (ce_var 3)) (co_val (ce_bin op_mod sr_mod (co_val (ce_callTy cr_int sc_int T.b_int bt_int (ca_cons (co_val (ce_call (as := [.s 0]) (ok__law_next T) hr hgd takesW0 (by decide) (ca_cons (co_slot 0) ca_nil))) ca_nil))) (co_val (ce_callB cr_len sc_len T.b_len bt_len (ca_cons (co_val (ce_var 3)) ca_nil)))))))))) ca_nil)))))

theorem ok_check_word (T : Txt K mg) : Ok P w K mg base 3 "check_word" ["k", "word"] pm_check_word .pur 2 F_check_word :=
  ok_of (ms := ms_check_word) T.d_check_word sc_check_word (fun _ _ _ _ _ _ us hl => match us, hl with | [_, _], _ => rfl) rfl rfl (msOf_app rfl) (.inl rfl) fun cdv A outer s H E hr hgd tk =>
    (css_one (cs_if (ct_not (ct_tru (co_val (ce_call (as := [.e (eVar 0), .e (eVar 1)]) (ok_is_word T) hr hgd tk (by decide) (ca_cons (co_val (ce_var 0)) (ca_cons (co_val (ce_var 1)) ca_nil)))))) (css_one (cs_raise T.e_NotWord tk)) css_nil))

theorem ok_is_before (T : Txt K mg) : Ok P w K mg base 4 "is_before" ["k", "one", "other"] pm_is_before .pur 3 F_is_before :=
  ok_of (ms := ms_is_before) T.d_is_before sc_is_before (fun _ _ _ _ _ _ us hl => match us, hl with | [_, _, _], _ => rfl) rfl rfl (msOf_app rfl) (.inl rfl) fun cdv A outer s H E hr hgd tk =>
    (css_cons (cs_expr (ce_call (as := [.e (eVar 0), .e (eVar 1)]) (ok_check_word T) hr hgd tk (by decide) (ca_cons (co_val (ce_var 0)) (ca_cons (co_val (ce_var 1)) ca_nil))))
    (css_cons (cs_expr (ce_call (as := [.e (eVar 0), .e (eVar 2)]) (ok_check_word T) hr hgd tk (by decide) (ca_cons (co_val (ce_var 0)) (ca_cons (co_val (ce_var 2)) ca_nil))))
    (css_one (cs_ret (ce_cmp (or_lt2 hr.units) sr_lt2 (nomark _) (co_val (ce_call (as := [.e (eVar 1)]) (ok_key_of T) hr hgd tk (by decide) (ca_cons (co_val (ce_var 1)) ca_nil))) (co_val (ce_call (as := [.e (eVar 2)]) (ok_key_of T) hr hgd tk (by decide) (ca_cons (co_val (ce_var 2)) ca_nil))))))))

theorem ok_in_order (T : Txt K mg) : Ok P w K mg base 4 "in_order" ["words"] pm_in_order .pur 1 F_in_order :=
  ok_of (ms := ms_in_order) T.d_in_order sc_in_order (fun _ _ _ _ _ _ us hl => match us, hl with | [_], _ => rfl) rfl rfl (msOf_app rfl) (.inl rfl) fun cdv A outer s H E hr hgd tk =>
    (css_one (cs_ret (ce_own (ceo_sortKD (ok_key_of T) hr hgd (by decide) rfl (ceo_dc false hr.units64 (own := [("word", 1)]) rfl sc_in_order.nd (ci_any (ce_var 0)) (blkOk_by (N := N_in_order) (sc := defScope st_in_order) (by decide +kernel)) (fun _ _ _ _ _ => (cg_name (ms := ms_in_order) 1 sc_in_order.nd)) (fun _ _ _ _ _ => cts_nil) (fun _ _ _ _ _ => (ce_var 1)) (fun _ _ _ _ _ => ce_bl)) T.b_sorted))))

theorem ok__law_told (T : Txt K mg) : Ok P w K mg base 5 "_law_told" ["_law_way", "_law_k", "_law_one", "_law_other"] pm__law_told .pur 4 F__law_told :=
  ok_of (ms := ms__law_told) T.d__law_told sc__law_told (fun _ _ _ _ _ _ us hl => match us, hl with | [_, _, _, _], _ => rfl) rfl rfl (msOf_app rfl) (.inl rfl) fun cdv A outer s H E hr hgd tk =>
    (css_one (cs_tryAs (i := 4) sc__law_told.nd ⟨rfl, by decide, .inl T.e_ShiftError.g⟩ tk (tabOk_ShiftError T) (fun W' pn xe tk' po' => (css_cons (cs_if (ct_cmp (or_eq hr.units) sr_eq (nomark _) (co_val (ce_var 0)) (co_val ce_int)) (css_one (cs_ret (ce_tup (ca_cons (co_val ce_str) (ca_cons (co_val (ce_call (as := [.e (eVar 1)]) (ok_letters_of T) hr hgd tk' (by decide) (ca_cons (co_val (ce_var 1)) ca_nil))) ca_nil))))) css_nil)
    (css_cons (cs_if (ct_cmp (or_eq hr.units) sr_eq (nomark _) (co_val (ce_var 0)) (co_val ce_int)) (css_one (cs_ret (ce_tup (ca_cons (co_val ce_str) (ca_cons (co_val (ce_call (as := [.e (eVar 1), .e (eVar 2)]) (ok_is_word T) hr hgd tk' (by decide) (ca_cons (co_val (ce_var 1)) (ca_cons (co_val (ce_var 2)) ca_nil)))) ca_nil))))) css_nil)
    (css_cons (cs_if (ct_cmp (or_eq hr.units) sr_eq (nomark _) (co_val (ce_var 0)) (co_val ce_int)) (css_one (cs_ret (ce_tup (ca_cons (co_val ce_str) (ca_cons (co_val (ce_call (as := [.e (eVar 1), .e (eVar 2)]) (ok_check_word T) hr hgd tk' (by decide) (ca_cons (co_val (ce_var 1)) (ca_cons (co_val (ce_var 2)) ca_nil)))) ca_nil))))) css_nil)
    (css_cons (cs_if (ct_cmp (or_eq hr.units) sr_eq (nomark _) (co_val (ce_var 0)) (co_val ce_int)) (css_one (cs_ret (ce_tup (ca_cons (co_val ce_str) (ca_cons (co_val (ce_call (as := [.e (eVar 1), .e (eVar 2), .e (eVar 3)]) (ok_is_before T) hr hgd tk' (by decide) (ca_cons (co_val (ce_var 1)) (ca_cons (co_val (ce_var 2)) (ca_cons (co_val (ce_var 3)) ca_nil))))) ca_nil))))) css_nil)
    (css_one (cs_ret (ce_tup (ca_cons (co_val ce_str) (ca_cons (co_val (ce_call (as := [.e (eVar 1), .e (eVar 2)]) (ok_words_of_length T) hr hgd tk' (by decide) (ca_cons (co_val (ce_var 1)) (ca_cons (co_val (ce_var 2)) ca_nil)))) ca_nil)))))))))) (fun a oe D c_ pn hD hT hZ hV => (css_one (cs_ret (ce_tup (ca_cons (co_val ce_str) (ca_cons (co_val (ce_own (ceo_lst (ca_cons (co_val (ce_callTy cr_int sc_int T.b_int bt_int (ca_cons (co_val (ce_isP List.mem_cons_self hD hZ hV T.e_BadNumber.g (isOk_BadNumber T) T.b_isinstance (by rfl))) ca_nil))) (ca_cons (co_val (ce_callTy cr_int sc_int T.b_int bt_int (ca_cons (co_val (ce_isP List.mem_cons_self hD hZ hV T.e_NotWord.g (isOk_NotWord T) T.b_isinstance (by rfl))) ca_nil))) ca_nil))))) ca_nil))))))))

theorem fn_law {fd : FuncData} (FD : FunD K "law" "law" (defArgs st_law) (defBody st_law) (defScope st_law) [] [] (He.ga K "law") fd) (T : Txt K mg) : FnG P w K mg base 6 (He.ga K "law") fd ["_law_script"] (spF w K mg pm_law .pur 1 F_law) :=
  fnG_body (ms := ms_law) FD sc_law rfl rfl (msOf_app rfl) (.inl rfl) fun cdv A outer s H E hr hgd tk =>
    (css_thw 1 (css_cons (cs_setO 1 sc_law.nd (ceo_call (as := [.e (eVar 0)]) (ok__law_draws T) hr hgd tk (by decide) (ca_cons (co_val (ce_var 0)) ca_nil)))
    (css_cons (cs_expr (ce_mut0 (i := 1) rfl PySem.F.slot_list_reverse PySem.F.type_list_reverse mt_reverse sx_reverse))
    (css_cons (cs_set 2 sc_law.nd (ce_bin or_add4 sr_add4 (co_val ce_int) (co_val (ce_bin op_mod sr_mod (co_val (ce_callTy cr_int sc_int T.b_int bt_int (ca_cons (co_val (ce_call (as := [.s 1]) (ok__law_next T) hr hgd tk (by decide) (ca_cons (co_slot 1) ca_nil))) ca_nil))) (co_val ce_int)))))
    (css_cons (cs_set 3 sc_law.nd (ce_call (as := [.s 1, .e (eVar 2), .e (eCst (.int 6))]) (ok__law_string T) hr hgd tk (by decide) (ca_cons (co_slot 1) (ca_cons (co_val (ce_var 2)) (ca_cons (co_val ce_int) ca_nil)))))
    (css_cons (cs_set 4 sc_law.nd (ce_ix (co_val (ce_own (ceo_lst (ca_cons (co_val (ce_call (as := [.s 1, .e (eVar 2), .e (eCst (.int 6))]) (ok__law_string T) hr hgd tk (by decide) (ca_cons (co_slot 1) (ca_cons (co_val (ce_var 2)) (ca_cons (co_val ce_int) ca_nil))))) (ca_cons (co_val (ce_bin or_add4 sr_add4 (co_val (ce_var 3)) (co_val (ce_ix (co_val ce_str) (co_val (ce_bin op_mod sr_mod (co_val (ce_callTy cr_int sc_int T.b_int bt_int (ca_cons (co_val (ce_call (as := [.s 1]) (ok__law_next T) hr hgd tk (by decide) (ca_cons (co_slot 1) ca_nil))) ca_nil))) (co_val ce_int))))))) (ca_cons (co_val (ce_var 3)) ca_nil)))))) (co_val (ce_bin op_mod sr_mod (co_val (ce_callTy cr_int sc_int T.b_int bt_int (ca_cons (co_val (ce_call (as := [.s 1]) (ok__law_next T) hr hgd tk (by decide) (ca_cons (co_slot 1) ca_nil))) ca_nil))) (co_val ce_int)))))
    (css_cons (cs_if (ct_cmp (or_eq hr.units) sr_eq (nomark _) (co_val (ce_bin op_mod sr_mod (co_val (ce_callTy cr_int sc_int T.b_int bt_int (ca_cons (co_val (ce_call (as := [.s 1]) (ok__law_next T) hr hgd tk (by decide) (ca_cons (co_slot 1) ca_nil))) ca_nil))) (co_val ce_int))) (co_val ce_int)) (css_one (cs_set 3 sc_law.nd (ce_bin or_add4 sr_add4 (co_val (ce_bin or_mul5 sr_mul5 (co_val ce_str) (co_val ce_int))) (co_val (ce_sl (co_val (ce_var 3)) cp_none (cp_some ce_int)))))) css_nil)
    (css_cons (cs_set 5 sc_law.nd (ce_ix (co_val (ce_own (ceo_lst (ca_cons (co_val ce_int) (ca_cons (co_val ce_int) (ca_cons (co_val ce_int) (ca_cons (co_val (ce_neg ce_int)) ca_nil))))))) (co_val (ce_bin op_mod sr_mod (co_val (ce_callTy cr_int sc_int T.b_int bt_int (ca_cons (co_val (ce_call (as := [.s 1]) (ok__law_next T) hr hgd tk (by decide) (ca_cons (co_slot 1) ca_nil))) ca_nil))) (co_val ce_int)))))
    (css_cons (cs_for (passes_of rfl) rfl (ci_rng1 T.b_range (ca_cons (co_val ce_int) ca_nil)) (cg_name (ms := (msL ms_law 1)) 6 sc_law.nd) (css_one (cs_if (ct_cmp (or_ne hr.units) sr_ne (nomark _) (co_val (ce_call (as := [.e (eVar 6), .e (eVar 5), .e (eBin dIx (oVal (eLst (aCons (oVal (eVar 3)) (aCons (oVal (eCst (.int 2))) aNil)))) (oVal (eCall cInt (aCons (oVal (eBin dEq (oVal (eVar 6)) (oVal (eCst (.int 4))))) aNil)))), .e (eVar 4)]) (ok__law_told T) hr hgd tk (by decide) (ca_cons (co_val (ce_var 6)) (ca_cons (co_val (ce_var 5)) (ca_cons (co_val (ce_ix (co_val (ce_own (ceo_lst (ca_cons (co_val (ce_var 3)) (ca_cons (co_val ce_int) ca_nil))))) (co_val (ce_callTy cr_int sc_int T.b_int bt_int (ca_cons (co_val (ce_cmp (or_eq hr.units) sr_eq (nomark _) (co_val (ce_var 6)) (co_val ce_int))) ca_nil))))) (ca_cons (co_val (ce_var 4)) ca_nil)))))) (co_val (ce_tup (ca_cons (co_val ce_str) (ca_cons (co_val (ce_own (ceo_lst (ca_cons (co_val ce_int) (ca_cons (co_val ce_int) ca_nil))))) ca_nil))))) (css_one (cs_ret ce_bl)) css_nil)))
    (css_cons (cs_set 7 sc_law.nd (ce_own (ceo_lst (ca_cons (co_val (ce_call (as := [.e (eVar 2), .e (eVar 3)]) (ok__law_is_word T) hr hgd tk (by decide) (ca_cons (co_val (ce_var 2)) (ca_cons (co_val (ce_var 3)) ca_nil)))) (ca_cons (co_val (ce_call (as := [.e (eVar 2), .e (eVar 4)]) (ok__law_is_word T) hr hgd tk (by decide) (ca_cons (co_val (ce_var 2)) (ca_cons (co_val (ce_var 4)) ca_nil)))) ca_nil)))))
    (css_cons (cs_set 8 sc_law.nd (ce_ix (co_val (ce_own (ceo_lst (ca_cons (co_val (ce_tup (ca_cons (co_val ce_str) (ca_cons (co_val (ce_own (ceo_lst (ca_cons (co_val ce_int) (ca_cons (co_val ce_int) ca_nil))))) ca_nil)))) (ca_cons (co_val (ce_tup (ca_cons (co_val ce_str) (ca_cons (co_val ce_non) ca_nil)))) ca_nil))))) (co_val (ce_callTy cr_int sc_int T.b_int bt_int (ca_cons (co_val (ce_ix (co_val (ce_var 7)) (co_val ce_int))) ca_nil)))))
    (css_cons (cs_if (ct_of (cw_or (ct_cmp (or_ne hr.units) sr_ne (nomark _) (co_val (ce_call (as := [.e (eCst (.int 0)), .e (eVar 2), .e (eVar 3), .e (eVar 4)]) (ok__law_told T) hr hgd tk (by decide) (ca_cons (co_val ce_int) (ca_cons (co_val (ce_var 2)) (ca_cons (co_val (ce_var 3)) (ca_cons (co_val (ce_var 4)) ca_nil)))))) (co_val (ce_tup (ca_cons (co_val ce_str) (ca_cons (co_val (ce_sl (co_val ce_str) cp_none (cp_some (ce_var 2)))) ca_nil))))) (cw_or1 (ct_cmp (or_ne hr.units) sr_ne (nomark _) (co_val (ce_callB (cr_repr hgd hr.units) sc_repr T.b_repr bt_repr (ca_cons (co_val (ce_call (as := [.e (eCst (.int 2)), .e (eVar 2), .e (eVar 3), .e (eVar 4)]) (ok__law_told T) hr hgd tk (by decide) (ca_cons (co_val ce_int) (ca_cons (co_val (ce_var 2)) (ca_cons (co_val (ce_var 3)) (ca_cons (co_val (ce_var 4)) ca_nil)))))) ca_nil))) (co_val (ce_callB (cr_repr hgd hr.units) sc_repr T.b_repr bt_repr (ca_cons (co_val (ce_var 8)) ca_nil))))))) (css_one (cs_ret ce_bl)) css_nil)
    (css_cons (cs_if (ct_cmp (or_ne hr.units) sr_ne (nomark _) (co_val (ce_callB (cr_repr hgd hr.units) sc_repr T.b_repr bt_repr (ca_cons (co_val (ce_call (as := [.e (eCst (.int 1)), .e (eVar 2), .e (eVar 3), .e (eVar 4)]) (ok__law_told T) hr hgd tk (by decide) (ca_cons (co_val ce_int) (ca_cons (co_val (ce_var 2)) (ca_cons (co_val (ce_var 3)) (ca_cons (co_val (ce_var 4)) ca_nil)))))) ca_nil))) (co_val (ce_callB (cr_repr hgd hr.units) sc_repr T.b_repr bt_repr (ca_cons (co_val (ce_tup (ca_cons (co_val ce_str) (ca_cons (co_val (ce_ix (co_val (ce_var 7)) (co_val ce_int))) ca_nil)))) ca_nil)))) (css_one (cs_ret ce_bl)) css_nil)
    (css_cons (cs_set 8 sc_law.nd (ce_tup (ca_cons (co_val ce_str) (ca_cons (co_val (ce_own (ceo_lst (ca_cons (co_val ce_int) (ca_cons (co_val ce_int) ca_nil))))) ca_nil))))
    (css_cons (cs_if (ct_of (cw_and (ct_tru (co_val (ce_ix (co_val (ce_var 7)) (co_val ce_int)))) (cw_and1 (ct_tru (co_val (ce_ix (co_val (ce_var 7)) (co_val ce_int))))))) (css_one (cs_set 8 sc_law.nd (ce_tup (ca_cons (co_val ce_str) (ca_cons (co_val (ce_cmp (or_lt2 hr.units) sr_lt2 (nomark _) (co_val (ce_call (as := [.e (eVar 3)]) (ok__law_place T) hr hgd tk (by decide) (ca_cons (co_val (ce_var 3)) ca_nil))) (co_val (ce_call (as := [.e (eVar 4)]) (ok__law_place T) hr hgd tk (by decide) (ca_cons (co_val (ce_var 4)) ca_nil))))) ca_nil))))) css_nil)
    (css_cons (cs_if (ct_cmp (or_ne hr.units) sr_ne (nomark _) (co_val (ce_callB (cr_repr hgd hr.units) sc_repr T.b_repr bt_repr (ca_cons (co_val (ce_call (as := [.e (eCst (.int 3)), .e (eVar 2), .e (eVar 3), .e (eVar 4)]) (ok__law_told T) hr hgd tk (by decide) (ca_cons (co_val ce_int) (ca_cons (co_val (ce_var 2)) (ca_cons (co_val (ce_var 3)) (ca_cons (co_val (ce_var 4)) ca_nil)))))) ca_nil))) (co_val (ce_callB (cr_repr hgd hr.units) sc_repr T.b_repr bt_repr (ca_cons (co_val (ce_var 8)) ca_nil)))) (css_one (cs_ret ce_bl)) css_nil)
    (css_cons (cs_set 9 sc_law.nd (ce_bin op_mod sr_mod (co_val (ce_callTy cr_int sc_int T.b_int bt_int (ca_cons (co_val (ce_call (as := [.s 1]) (ok__law_next T) hr hgd tk (by decide) (ca_cons (co_slot 1) ca_nil))) ca_nil))) (co_val ce_int)))
    (css_cons (cs_if (ct_cmp (or_ne hr.units) sr_ne (nomark _) (co_val (ce_callB (cr_repr hgd hr.units) sc_repr T.b_repr bt_repr (ca_cons (co_val (ce_call (as := [.e (eCst (.int 4)), .e (eVar 2), .e (eVar 9), .e (eCst (.str ""))]) (ok__law_told T) hr hgd tk (by decide) (ca_cons (co_val ce_int) (ca_cons (co_val (ce_var 2)) (ca_cons (co_val (ce_var 9)) (ca_cons (co_val ce_str) ca_nil)))))) ca_nil))) (co_val (ce_callB (cr_repr hgd hr.units) sc_repr T.b_repr bt_repr (ca_cons (co_val (ce_tup (ca_cons (co_val ce_str) (ca_cons (co_val (ce_call (as := [.e (eVar 2), .e (eVar 9)]) (ok__law_listed T) hr hgd tk (by decide) (ca_cons (co_val (ce_var 2)) (ca_cons (co_val (ce_var 9)) ca_nil)))) ca_nil)))) ca_nil)))) (css_one (cs_ret ce_bl)) css_nil)
    (css_cons (cs_if (ct_of (cw_or (ct_cmp (or_ne hr.units) sr_ne (nomark _) (co_val (ce_call (as := [.e (eCst (.int 4)), .e (eVar 2), .e (eNeg (eCst (.int 1))), .e (eCst (.str ""))]) (ok__law_told T) hr hgd tk (by decide) (ca_cons (co_val ce_int) (ca_cons (co_val (ce_var 2)) (ca_cons (co_val (ce_neg ce_int)) (ca_cons (co_val ce_str) ca_nil)))))) (co_val (ce_tup (ca_cons (co_val ce_str) (ca_cons (co_val (ce_own (ceo_lst (ca_cons (co_val ce_int) (ca_cons (co_val ce_int) ca_nil))))) ca_nil))))) (cw_or1 (ct_cmp (or_ne hr.units) sr_ne (nomark _) (co_val (ce_call (as := [.e (eCst (.int 4)), .e (eVar 2), .e (eCst (.int 13)), .e (eCst (.str ""))]) (ok__law_told T) hr hgd tk (by decide) (ca_cons (co_val ce_int) (ca_cons (co_val (ce_var 2)) (ca_cons (co_val ce_int) (ca_cons (co_val ce_str) ca_nil)))))) (co_val (ce_tup (ca_cons (co_val ce_str) (ca_cons (co_val (ce_own (ceo_lst (ca_cons (co_val ce_int) (ca_cons (co_val ce_int) ca_nil))))) ca_nil)))))))) (css_one (cs_ret ce_bl)) css_nil)
    (css_cons (cs_set 10 sc_law.nd (ce_own (ceo_lst (ca_cons (co_val (ce_var 3)) (ca_cons (co_val (ce_var 4)) (ca_cons (co_val (ce_sl (co_val (ce_var 3)) cp_none (cp_some ce_int))) (ca_cons (co_val (ce_back (co_val (ce_var 4)))) (ca_cons (co_val (ce_var 3)) (ca_cons (co_val ce_str) ca_nil)))))))))
    (css_cons (cs_setLcP 10 (own := [("_law_word", 11)]) rfl sc_law.nd (ci_any (ce_var 10)) (blkOk_by (N := N_law) (sc := defScope st_law) (by decide +kernel)) (fun _ _ _ _ _ => (cg_name (ms := (msL ms_law 1)) 11 sc_law.nd)) (fun _ _ _ _ _ => (cts_one (ct_tru (co_val (ce_callB (cr_all rfl) sc_all T.b_all bt_all (ca_cons (co_val (ce_own (ceo_lc (own := [("_law_sign", 13)]) rfl sc_law.nd (ci_any (ce_var 11)) (blkOk_by (by kernel_rfl)) (fun _ _ _ _ _ => (cg_name (ms := (msL ms_law 1)) 13 sc_law.nd)) (fun _ _ _ _ _ => cts_nil) (fun _ _ _ _ _ => (ce_cmp (or_in hr.units hr.units65) sr_in (by rfl) (co_val (ce_var 13)) (co_val ce_str)))))) ca_nil)))))) (fun _ _ _ _ _ => (ce_var 11)))
    (css_thw 8 (css_cons (cs_setO 8 sc_law.nd (ceo_lst ca_nil))
    (css_cons (cs_for (passes_of rfl) rfl (ci_any (ce_own (ceo_sortK (ok__law_place T) hr hgd (by decide) rfl (ca_cons (co_val (ce_var 10)) ca_nil) T.b_sorted))) (cg_name (ms := (msL (msL ms_law 1) 8)) 11 sc_law.nd) (css_one (cs_if (ct_cmp (or_notIn hr.units hr.units65) sr_notIn (by rfl) (co_val (ce_var 11)) (co_slot 8)) (css_one (cs_expr (ce_mut (i := 8) rfl PySem.F.slot_list_append PySem.F.type_list_append mt_append sx_append (ca_cons (co_val (ce_var 11)) ca_nil)))) css_nil)))
    (css_frz 8 (css_cons (cs_if (ct_cmp (or_ne hr.units) sr_ne (nomark _) (co_val (ce_callB (cr_repr hgd hr.units) sc_repr T.b_repr bt_repr (ca_cons (co_val (ce_call (as := [.e (eCallL cListA (aCons (oVal (eVar 10)) aNil))]) (ok_in_order T) hr hgd tk (by decide) (ca_cons (co_val (ce_own (ceo_callTy (cr_lstA rfl) sc_lstA T.b_list bt_list (ca_cons (co_val (ce_var 10)) ca_nil)))) ca_nil))) ca_nil))) (co_val (ce_callB (cr_repr hgd hr.units) sc_repr T.b_repr bt_repr (ca_cons (co_val (ce_var 8)) ca_nil)))) (css_one (cs_ret ce_bl)) css_nil)
    (css_cons (cs_set 12 sc_law.nd (ce_callB cr_len sc_len T.b_len bt_len (ca_cons (co_val (ce_own (ceo_lc (own := [("_law_j", 14)]) rfl sc_law.nd (ci_rng1 T.b_range (ca_cons (co_val (ce_callB (call_min2 rfl) sc_min T.b_min bt_min (ca_cons (co_val (ce_callB cr_len sc_len T.b_len bt_len (ca_cons (co_val (ce_var 3)) ca_nil))) (ca_cons (co_val (ce_callB cr_len sc_len T.b_len bt_len (ca_cons (co_val (ce_var 4)) ca_nil))) ca_nil)))) ca_nil)) (blkOk_by (N := N_law) (sc := defScope st_law) (by decide +kernel)) (fun _ _ _ _ _ => (cg_name (ms := (msP (msL (msL ms_law 1) 8) 8)) 14 sc_law.nd)) (fun _ _ _ _ _ => (cts_one (ct_cmp (or_eq hr.units) sr_eq (nomark _) (co_val (ce_sl (co_val (ce_var 3)) cp_none (cp_some (ce_bin or_add4 sr_add4 (co_val (ce_var 14)) (co_val ce_int))))) (co_val (ce_sl (co_val (ce_var 4)) cp_none (cp_some (ce_bin or_add4 sr_add4 (co_val (ce_var 14)) (co_val ce_int)))))))) (fun _ _ _ _ _ => (ce_var 14))))) ca_nil)))
    (css_one (cs_ret (ce_cmp (or_eq hr.units) sr_eq (nomark _) (co_val (ce_call (as := [.e (eVar 3), .e (eVar 4)]) (ok_common T) hr hgd tk (by decide) (ca_cons (co_val (ce_var 3)) (ca_cons (co_val (ce_var 4)) ca_nil)))) (co_val (ce_sl (co_val (ce_var 3)) cp_none (cp_some (ce_var 12))))))))))))))))))))))))))))))))))
end
/-! the head -/
def fn : List He.DefD := [⟨("check_size", none), "check_size", "check_size", defArgs st_check_size, defBody st_check_size, defScope st_check_size, [], []⟩, ⟨("has_letters", none), "has_letters", "has_letters", defArgs st_has_letters, defBody st_has_letters, defScope st_has_letters, [], []⟩, ⟨("key_of", none), "key_of", "key_of", defArgs st_key_of, defBody st_key_of, defScope st_key_of, [], []⟩, ⟨("common", none), "common", "common", defArgs st_common, defBody st_common, defScope st_common, [], []⟩, ⟨("_law_number", none), "_law_number", "_law_number", defArgs st__law_number, defBody st__law_number, defScope st__law_number, [], []⟩, ⟨("_law_next", none), "_law_next", "_law_next", defArgs st__law_next, defBody st__law_next, defScope st__law_next, [], []⟩, ⟨("_law_is_word", none), "_law_is_word", "_law_is_word", defArgs st__law_is_word, defBody st__law_is_word, defScope st__law_is_word, [], []⟩, ⟨("_law_place", none), "_law_place", "_law_place", defArgs st__law_place, defBody st__law_place, defScope st__law_place, [], []⟩, ⟨("_law_listed", none), "_law_listed", "_law_listed", defArgs st__law_listed, defBody st__law_listed, defScope st__law_listed, [], []⟩, ⟨("letters_of", none), "letters_of", "letters_of", defArgs st_letters_of, defBody st_letters_of, defScope st_letters_of, [], []⟩, ⟨("is_word", none), "is_word", "is_word", defArgs st_is_word, defBody st_is_word, defScope st_is_word, [], []⟩, ⟨("words_of_length", none), "words_of_length", "words_of_length", defArgs st_words_of_length, defBody st_words_of_length, defScope st_words_of_length, [], []⟩, ⟨("_law_draws", none), "_law_draws", "_law_draws", defArgs st__law_draws, defBody st__law_draws, defScope st__law_draws, [], []⟩, ⟨("_law_string", none), "_law_string", "_law_string", defArgs st__law_string, defBody st__law_string, defScope st__law_string, [], []⟩, ⟨("check_word", none), "check_word", "check_word", defArgs st_check_word, defBody st_check_word, defScope st_check_word, [], []⟩, ⟨("is_before", none), "is_before", "is_before", defArgs st_is_before, defBody st_is_before, defScope st_is_before, [], []⟩, ⟨("in_order", none), "in_order", "in_order", defArgs st_in_order, defBody st_in_order, defScope st_in_order, [], []⟩, ⟨("_law_told", none), "_law_told", "_law_told", defArgs st__law_told, defBody st__law_told, defScope st__law_told, [], []⟩, ⟨("law", none), "law", "law", defArgs st_law, defBody st_law, defScope st_law, [], []⟩]
def fa : List He.Fa := [.glo "check_size", .glo "has_letters", .glo "key_of", .glo "common", .glo "_law_number", .glo "_law_next", .glo "_law_is_word", .glo "_law_place", .glo "_law_listed", .glo "letters_of", .glo "is_word", .glo "words_of_length", .glo "_law_draws", .glo "_law_string", .glo "check_word", .glo "is_before", .glo "in_order", .glo "_law_told", .glo "law", .free "len", .free "all", .free "min", .free "range", .free "int", .free "sorted", .free "isinstance", .free "repr", .free "list", .str "LETTERS" "abcdef", .int "MOST_LETTERS" (60), .int "MOST_LISTED" (4096), .glo "BadNumber", .exc "BadNumber", .glo "NotWord", .exc "NotWord", .glo "ShiftError", .exc "ShiftError", .exm "BadNumber" "ShiftError" true, .exm "NotWord" "ShiftError" true]
def xs : List (PySem.W.Frag → Bool) := [nolst, excCB "BadNumber", excCB "NotWord", kitCB "BadNumber" "NotWord" false, kitCB "NotWord" "NotWord" true, kitCB "BadNumber" "BadNumber" true, kitCB "NotWord" "BadNumber" false]
def names : List Str := (["ShiftError", "NotWord", "BadNumber", "LETTERS", "MOST_LETTERS", "MOST_LISTED", "check_size", "letters_of", "has_letters", "is_word", "check_word", "key_of", "is_before", "in_order", "words_of_length", "common", "_law_number", "_law_draws", "_law_next", "_law_string", "_law_told", "_law_is_word", "_law_place", "_law_listed"] : List Str)
abbrev Rw : PySem.W.OpenRow := PySem.W.OpenLaw.row PySem.Challenge.rw_soundturns_k00_words_and_their_order
abbrev hk : PySem.W.Hook := hookX 4 fa fn xs
def ob (s : PySem.W.SharedT) : AlX := obsXG 4 fa fn xs (HandSHeadRun.getT s)
theorem ob_eq (s : PySem.W.SharedT) : ob s = hk.obs s.abs := obsXG_eq (HandSHeadRun.getT_eq s)
set_option maxHeartbeats 0 in
theorem run (w : World) : HandSHeadRun.RunEq Rw (PySem.W.view Rw.prog [27]) hk ob 4000 names w := by
  intro os
  kernel_rfl
theorem txt {K : PySem.W.Frag} {h : Heap} {mg : Str → Option Value} (X : K.In h) (G : h.Ns mainGlobals mg) (c : SaysX fa fn xs K) : Txt K mg :=
  ⟨⟨He.glo_ok X G (c.d.fact 0), c.d.def_ 0⟩,
    ⟨He.glo_ok X G (c.d.fact 1), c.d.def_ 1⟩,
    ⟨He.glo_ok X G (c.d.fact 2), c.d.def_ 2⟩,
    ⟨He.glo_ok X G (c.d.fact 3), c.d.def_ 3⟩,
    ⟨He.glo_ok X G (c.d.fact 4), c.d.def_ 4⟩,
    ⟨He.glo_ok X G (c.d.fact 5), c.d.def_ 5⟩,
    ⟨He.glo_ok X G (c.d.fact 6), c.d.def_ 6⟩,
    ⟨He.glo_ok X G (c.d.fact 7), c.d.def_ 7⟩,
    ⟨He.glo_ok X G (c.d.fact 8), c.d.def_ 8⟩,
    ⟨He.glo_ok X G (c.d.fact 9), c.d.def_ 9⟩,
    ⟨He.glo_ok X G (c.d.fact 10), c.d.def_ 10⟩,
    ⟨He.glo_ok X G (c.d.fact 11), c.d.def_ 11⟩,
    ⟨He.glo_ok X G (c.d.fact 12), c.d.def_ 12⟩,
    ⟨He.glo_ok X G (c.d.fact 13), c.d.def_ 13⟩,
    ⟨He.glo_ok X G (c.d.fact 14), c.d.def_ 14⟩,
    ⟨He.glo_ok X G (c.d.fact 15), c.d.def_ 15⟩,
    ⟨He.glo_ok X G (c.d.fact 16), c.d.def_ 16⟩,
    ⟨He.glo_ok X G (c.d.fact 17), c.d.def_ 17⟩,
    ⟨He.glo_ok X G (c.d.fact 18), c.d.def_ 18⟩,
    He.free_ok X G (c.d.fact 19),
    He.free_ok X G (c.d.fact 20),
    He.free_ok X G (c.d.fact 21),
    He.free_ok X G (c.d.fact 22),
    He.free_ok X G (c.d.fact 23),
    He.free_ok X G (c.d.fact 24),
    He.free_ok X G (c.d.fact 25),
    He.free_ok X G (c.d.fact 26),
    He.free_ok X G (c.d.fact 27),
    He.str_ok X G (c.d.fact 28),
    He.int_ok X G (c.d.fact 29),
    He.int_ok X G (c.d.fact 30),
    ec_of X G (c.d.fact 31) (c.d.fact 32),
    ec_of X G (c.d.fact 33) (c.d.fact 34),
    ec_of X G (c.d.fact 35) (c.d.fact 36),
    He.exm_ok (c.d.fact 37),
    He.exm_ok (c.d.fact 38),
    excC_of (x := "BadNumber") (c.x xs[1] (List.getElem_mem (by decide))),
    excC_of (x := "NotWord") (c.x xs[2] (List.getElem_mem (by decide))),
    kit_of' (x := "BadNumber") (y := "NotWord") (b := false) (c.x xs[3] (List.getElem_mem (by decide))),
    kit_of' (x := "NotWord") (y := "NotWord") (b := true) (c.x xs[4] (List.getElem_mem (by decide))),
    kit_of' (x := "BadNumber") (y := "BadNumber") (b := true) (c.x xs[5] (List.getElem_mem (by decide))),
    kit_of' (x := "NotWord") (y := "BadNumber") (b := false) (c.x xs[6] (List.getElem_mem (by decide)))⟩
end Lw
end

section
open PySem PySem.W PySem.Calls PyProof.Rows
set_option maxHeartbeats 0 in
theorem PySem.Challenge.cw_soundturns_k00_words_and_their_order_holds : PySem.Challenge.rw_soundturns_k00_words_and_their_order.Holds := by
  w_on; o_law
  refine HandSHeadRun.head_any (r := OpenLaw.row PySem.Challenge.rw_soundturns_k00_words_and_their_order) (q := view (OpenLaw.row PySem.Challenge.rw_soundturns_k00_words_and_their_order).prog [27]) (H := Lw.hk) (ob := Lw.ob) (M := 4000) (loose := Lw.names) (d := HandSHeadRun.topDef (OpenLaw.row PySem.Challenge.rw_soundturns_k00_words_and_their_order).prog 27) (kwd := []) Lw.ob_eq
    (by kernel_rfl) (fun s => by kernel_rfl) Lw.run (by kernel_rfl) (by kernel_rfl) (by kernel_rfl) (by rfl) (by first | assumption | decide +kernel) (by decide +kernel) ⟨rfl, rfl, rfl, rfl, rfl, by decide +kernel⟩ ?hw ?hc
  case hw => w_witness2
  case hc =>
    refine DL.walk_ofG (l := PySem.Challenge.rw_soundturns_k00_words_and_their_order) (n := 63) (k := 6) (x := "_law_script") (pm := Lw.pm_law) (F := Lw.F_law) rfl (by decide) (by kernel_rfl) ⟨rfl, by decide, by decide⟩ rfl ?F Lw.law_true
    intro w mg fa h Y G hmg0
    obtain ⟨K, KX, c⟩ := Y
    have hmg : mg ("law" : PySem.Str) = some (.ref fa) := by
      have e : (HandSHeadRun.topDef (OpenLaw.row PySem.Challenge.rw_soundturns_k00_words_and_their_order).prog 27).name = ("law" : PySem.Str) := by kernel_rfl
      rw [← e]
      exact hmg0
    have T := Lw.txt KX G c
    have e := hmg.symm.trans T.d_law.1
    cases e
    obtain ⟨fd, F⟩ := T.d_law.2
    refine ⟨K, fd, KX, c.x _ List.mem_cons_self, fun s v => L2.FunD.bindsA (ps := ["_law_script"]) F (fun _ _ _ _ _ _ us hl => match us, hl with | [_], _ => rfl) s [v] rfl, fun base hb hg => ?_⟩
    exact Lw.fn_law F T
end
