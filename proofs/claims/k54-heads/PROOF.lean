import PyProof.Rows.All
import Wide.All
import OpenK.AllK
import Wide.FinOn
import HandS.ForMost
import HandS.TupAny
import HandS.Strs
import HandS.IsInst
import HandS.Deep
import HandS.Zip
import HandS.Rev
import HandS.RevRange
import HandS.Style
import HandS.StrMore
import HandS.Wide
import HandS.More
import HandS.Conv
import KE.SortData
import PyProof.ReprNest
import KE.GoesEnum
import KE.KDictPairs
import KE.GoesZip
import KE.GoesMore
import PySem.Challenge.RW_touchboats_k54_whole_who_can_be_head
set_option Elab.async false
set_option linter.all false
set_option autoImplicit false
set_option maxRecDepth 100000
/-! TB: data by value over the abstract heap of HandS. -/
namespace TB
open PySem L2

/-! ### data -/
inductive Dt where
  | non | bl (b : Bool) | int (i : Int) | str (x : Str) | tup (ds : List Dt) | ref (a : Addr)

/-- an object with neither dict nor slots -/
def PlO (o : Obj) : Prop := o.dict = none ∧ o.slots = #[]
mutual
/-- a value of the layer stands for a datum: tuples by what they hold, lists and dicts by their address -/
inductive Rep (H : Hp) : V → Dt → Prop
  | non : Rep H .non .non
  | bl (b : Bool) : Rep H (.bl b) (.bl b)
  | int (i : Int) : Rep H (.int i) (.int i)
  | str (x : Str) : Rep H (.str x) (.str x)
  | ref (a : Addr) : Rep H (.ref a) (.ref a)
  | tup {a : Addr} {o : Obj} {xs : List V} {ds : List Dt} : H a = some (.frz o (.tup xs)) → PlO o → RepAll H xs ds → Rep H (.ref a) (.tup ds)
inductive RepAll (H : Hp) : List V → List Dt → Prop
  | nil : RepAll H [] []
  | cons {v : V} {vs : List V} {d : Dt} {ds : List Dt} : Rep H v d → RepAll H vs ds → RepAll H (v :: vs) (d :: ds)
end

/-- tuples never change -/
def TupLe (H H' : Hp) : Prop := ∀ a o xs, H a = some (.frz o (.tup xs)) → H' a = some (.frz o (.tup xs))
theorem TupLe.refl (H : Hp) : TupLe H H := fun _ _ _ h => h
theorem TupLe.trans {H H1 H2 : Hp} (a : TupLe H H1) (b : TupLe H1 H2) : TupLe H H2 := fun x o xs h => b x o xs (a x o xs h)
theorem TupLe.new {H : Hp} {p : Addr} {o : HO} (h : H p = none) : TupLe H (upd H p o) := fun a u xs e => by
  rw [upd_ne (ne_of_none e h)]; exact e
theorem TupLe.mut {H : Hp} {p : Addr} {o o' : HO} (h : H p = some o) (nt : ∀ u xs, o ≠ .frz u (.tup xs)) : TupLe H (upd H p o') := fun a u xs e => by
  rw [upd_ne (fun z => by rw [z, h] at e; exact nt u xs (Option.some.inj e))]; exact e

mutual
theorem Rep.mono {H H' : Hp} (t : TupLe H H') : ∀ (d : Dt) (v : V), Rep H v d → Rep H' v d
  | .non, _, h => by cases h; exact .non
  | .bl _, _, h => by cases h; exact .bl _
  | .int _, _, h => by cases h; exact .int _
  | .str _, _, h => by cases h; exact .str _
  | .ref _, _, h => by cases h; exact .ref _
  | .tup ds, _, h => by
    cases h with
    | tup h1 hd h2 => exact .tup (t _ _ _ h1) hd (RepAll.mono t ds _ h2)
theorem RepAll.mono {H H' : Hp} (t : TupLe H H') : ∀ (ds : List Dt) (vs : List V), RepAll H vs ds → RepAll H' vs ds
  | [], _, h => by cases h; exact .nil
  | d :: ds, _, h => by
    cases h with
    | cons h1 h2 => exact .cons (Rep.mono t d _ h1) (RepAll.mono t ds _ h2)
end
theorem Rep.go {H H' : Hp} {d : Dt} {v : V} (h : Rep H v d) (t : TupLe H H') : Rep H' v d := Rep.mono t d v h
theorem RepAll.go {H H' : Hp} {ds : List Dt} {vs : List V} (h : RepAll H vs ds) (t : TupLe H H') : RepAll H' vs ds := RepAll.mono t ds vs h
theorem RepAll.length {H : Hp} : ∀ {vs : List V} {ds : List Dt}, RepAll H vs ds → vs.length = ds.length
  | _, _, .nil => rfl
  | _, _, .cons _ h => congrArg (· + 1) h.length
theorem RepAll.get {H : Hp} : ∀ {vs : List V} {ds : List Dt} {i : Nat} {d : Dt}, RepAll H vs ds → ds[i]? = some d → ∃ v, vs[i]? = some v ∧ Rep H v d
  | _, _, _, _, .nil, e => by simp at e
  | _, _, 0, _, .cons r _, e => by simp at e; subst e; exact ⟨_, rfl, r⟩
  | _, _, i + 1, _, .cons _ t, e => by
    obtain ⟨v, h1, h2⟩ := RepAll.get (i := i) t (by simpa using e)
    exact ⟨v, by simpa using h1, h2⟩
theorem RepAll.getV {H : Hp} : ∀ {vs : List V} {ds : List Dt} {i : Nat} {v : V}, RepAll H vs ds → vs[i]? = some v → ∃ d, ds[i]? = some d ∧ Rep H v d
  | _, _, _, _, .nil, e => by simp at e
  | _, _, 0, _, .cons r _, e => by simp at e; subst e; exact ⟨_, rfl, r⟩
  | _, _, i + 1, _, .cons _ t, e => by
    obtain ⟨d, h1, h2⟩ := RepAll.getV (i := i) t (by simpa using e)
    exact ⟨d, by simpa using h1, h2⟩
theorem RepAll.append {H : Hp} : ∀ {vs ws : List V} {ds es : List Dt}, RepAll H vs ds → RepAll H ws es → RepAll H (vs ++ ws) (ds ++ es)
  | _, _, _, _, .nil, h => h
  | _, _, _, _, .cons r t, h => .cons r (t.append h)
theorem RepAll.take {H : Hp} : ∀ {vs : List V} {ds : List Dt} (n : Nat), RepAll H vs ds → RepAll H (vs.take n) (ds.take n)
  | _, _, 0, _ => .nil
  | _, _, _ + 1, .nil => .nil
  | _, _, n + 1, .cons r t => .cons r (t.take n)
theorem RepAll.drop {H : Hp} : ∀ {vs : List V} {ds : List Dt} (n : Nat), RepAll H vs ds → RepAll H (vs.drop n) (ds.drop n)
  | _, _, 0, h => h
  | _, _, _ + 1, .nil => .nil
  | _, _, n + 1, .cons _ t => t.drop n
theorem RepAll.set {H : Hp} {v : V} {d : Dt} (r : Rep H v d) : ∀ {vs : List V} {ds : List Dt} (n : Nat), RepAll H vs ds → RepAll H (vs.set n v) (ds.set n d)
  | _, _, _, .nil => .nil
  | _, _, 0, .cons _ t => .cons r t
  | _, _, n + 1, .cons q t => .cons q (RepAll.set r n t)
theorem RepAll.reverse {H : Hp} : ∀ {vs : List V} {ds : List Dt}, RepAll H vs ds → RepAll H vs.reverse ds.reverse
  | _, _, .nil => .nil
  | _, _, .cons r t => by
    rw [List.reverse_cons, List.reverse_cons]
    exact t.reverse.append (.cons r .nil)
theorem RepAll.snoc {H : Hp} {vs : List V} {ds : List Dt} {v : V} {d : Dt} (h : RepAll H vs ds) (r : Rep H v d) : RepAll H (vs ++ [v]) (ds ++ [d]) := h.append (.cons r .nil)
theorem RepAll.dropLast {H : Hp} {vs : List V} {ds : List Dt} (h : RepAll H vs ds) : RepAll H vs.dropLast ds.dropLast := by
  rw [List.dropLast_eq_take, List.dropLast_eq_take, h.length]
  exact h.take _
/-- flat data: what stands for it is one value -/
def fl : Dt → V
  | .non => .non
  | .bl b => .bl b
  | .int i => .int i
  | .str x => .str x
  | .ref a => .ref a
  | .tup _ => .non
def isFl : Dt → Bool
  | .tup _ => false
  | _ => true
theorem Rep.flat {H : Hp} {v : V} {d : Dt} (h : Rep H v d) (hf : isFl d = true) : v = fl d := by
  cases h <;> first | rfl | cases hf
theorem RepAll.flat {H : Hp} : ∀ {vs : List V} {ds : List Dt}, RepAll H vs ds → ds.all isFl = true → vs = ds.map fl
  | _, _, .nil, _ => rfl
  | _, _, .cons r t, hf => by
    rw [List.all_cons, Bool.and_eq_true] at hf
    rw [List.map_cons, r.flat hf.1, t.flat hf.2]
theorem RepAll.of_map {H : Hp} {α : Type} {f : α → V} {g : α → Dt} : ∀ (l : List α), (∀ x ∈ l, Rep H (f x) (g x)) → RepAll H (l.map f) (l.map g)
  | [], _ => .nil
  | x :: l, h => .cons (h x List.mem_cons_self) (RepAll.of_map l fun y hy => h y (List.mem_cons_of_mem _ hy))
theorem RepAll.ints {H : Hp} {vs : List V} {ns : List Int} (h : RepAll H vs (ns.map .int)) : vs = ns.map V.int := by
  rw [h.flat (by simp [isFl])]; simp [fl]
theorem RepAll.strs {H : Hp} {vs : List V} {ns : List Str} (h : RepAll H vs (ns.map .str)) : vs = ns.map V.str := by
  rw [h.flat (by simp [isFl])]; simp [fl]
theorem RepAll.bls {H : Hp} {vs : List V} {ns : List Bool} (h : RepAll H vs (ns.map .bl)) : vs = ns.map V.bl := by
  rw [h.flat (by simp [isFl])]; simp [fl]

/-! ### the lists and dicts -/
inductive MO where
  | lst (ds : List Dt) | dic (kvs : List (Key × Dt)) | loc (o : Obj) (kvs : List (Key × V)) (kds : List (Key × Dt)) | frl (o : Obj) (ns : List Int)
abbrev Mp := Addr → Option MO
def mu (m : Mp) (a : Addr) (o : MO) : Mp := fun b => if b = a then some o else m b
theorem mu_same {m : Mp} {a : Addr} {o : MO} : mu m a o a = some o := by unfold mu; rw [if_pos rfl]
theorem mu_ne {m : Mp} {a b : Addr} {o : MO} (h : b ≠ a) : mu m a o b = m b := by unfold mu; rw [if_neg h]
theorem mu_mu {m : Mp} {a : Addr} {o u : MO} : mu (mu m a o) a u = mu m a u := by
  funext b; unfold mu; split <;> rfl
theorem mu_comm {m : Mp} {a b : Addr} {o u : MO} (h : a ≠ b) : mu (mu m a o) b u = mu (mu m b u) a o := by
  funext c; unfold mu
  by_cases h1 : c = b
  · rw [if_pos h1, if_neg (fun z => h (z.symm.trans h1)), if_pos h1]
  · rw [if_neg h1, if_neg h1]
theorem mu_eta {m : Mp} {a : Addr} {o : MO} (h : m a = some o) : mu m a o = m := by
  funext c; unfold mu
  by_cases h1 : c = a
  · rw [if_pos h1, h1, h]
  · rw [if_neg h1]
/-- less is known -/
def MLe (m m' : Mp) : Prop := ∀ a o, m a = some o → m' a = some o
theorem MLe.refl (m : Mp) : MLe m m := fun _ _ h => h
theorem MLe.trans {a b c : Mp} (h : MLe a b) (k : MLe b c) : MLe a c := fun x o z => k x o (h x o z)
theorem MLe.new {m : Mp} {a : Addr} {o : MO} (h : m a = none) : MLe m (mu m a o) := fun b u e => by
  rw [mu_ne (fun z => by rw [z, h] at e; cases e)]; exact e
theorem MLe.mu {m m' : Mp} {a : Addr} {o : MO} (h : MLe m m') (ha : m a = none) : MLe m (mu m' a o) := fun b u e => by
  rw [mu_ne (fun z => by rw [z, ha] at e; cases e)]; exact h b u e
theorem MLe.both {m m' : Mp} {a : Addr} {o : MO} (h : MLe m m') : MLe (TB.mu m a o) (TB.mu m' a o) := fun b u e => by
  by_cases z : b = a
  · subst z; rw [mu_same] at e ⊢; exact e
  · rw [mu_ne z] at e ⊢; exact h b u e

inductive RepKV (H : Hp) : List (Key × V) → List (Key × Dt) → Prop
  | nil : RepKV H [] []
  | cons {k : Key} {v : V} {d : Dt} {kvs : List (Key × V)} {kds : List (Key × Dt)} : Rep H v d → RepKV H kvs kds → RepKV H ((k, v) :: kvs) ((k, d) :: kds)
theorem RepKV.go {H H' : Hp} (t : TupLe H H') : ∀ {a : List (Key × V)} {b : List (Key × Dt)}, RepKV H a b → RepKV H' a b
  | _, _, .nil => .nil
  | _, _, .cons r h => .cons (r.go t) (h.go t)
theorem RepKV.keys {H : Hp} : ∀ {a : List (Key × V)} {b : List (Key × Dt)}, RepKV H a b → a.map (·.1) = b.map (·.1)
  | _, _, .nil => rfl
  | _, _, .cons r h => by rw [List.map_cons, List.map_cons, h.keys]
theorem RepKV.length {H : Hp} {a : List (Key × V)} {b : List (Key × Dt)} (h : RepKV H a b) : a.length = b.length := by
  have e := congrArg List.length h.keys
  simpa using e

def RepM (H : Hp) (a : Addr) : MO → Prop
  | .lst ds => ∃ xs, H a = some (.lst xs) ∧ RepAll H xs ds
  | .dic kds => ∃ kvs, H a = some (.dK kvs) ∧ RepKV H kvs kds
  | .loc o kvs kds => H a = some (.frz o (.dK kvs)) ∧ RepKV H kvs kds
  | .frl o ns => H a = some (.frz o (.lst (ns.map V.int)))
abbrev Ro := List (Option Dt)
theorem RepM.keep {H H' : Hp} {a : Addr} {o : MO} (h : RepM H a o) (t : TupLe H H') (e : H' a = H a) : RepM H' a o := by
  cases o with
  | lst ds => obtain ⟨xs, h1, h2⟩ := h; exact ⟨xs, e.trans h1, h2.go t⟩
  | dic ds => obtain ⟨xs, h1, h2⟩ := h; exact ⟨xs, e.trans h1, h2.go t⟩
  | loc o kvs kds => exact ⟨e.trans h.1, h.2.go t⟩
  | frl o ns => exact e.trans h
theorem RepM.is {H : Hp} {a : Addr} {o : MO} (h : RepM H a o) : ∃ u, H a = some u ∧ ∀ w xs, u ≠ .frz w (.tup xs) := by
  cases o with
  | lst ds => obtain ⟨xs, h1, _⟩ := h; exact ⟨_, h1, fun _ _ z => nomatch z⟩
  | dic ds => obtain ⟨xs, h1, _⟩ := h; exact ⟨_, h1, fun _ _ z => nomatch z⟩
  | loc o kvs kds => exact ⟨_, h.1, fun _ _ z => nomatch z⟩
  | frl o ns => exact ⟨_, h, fun _ _ z => nomatch z⟩

/-- the heap bears m, and beside it the frame fr -/
structure MSt (fr : Hp) (m : Mp) (H : Hp) : Prop where
  mem : ∀ a o, m a = some o → RepM H a o
  frm : ∀ a o, fr a = some o → H a = some o
  sep : ∀ a o, m a = some o → fr a = none
structure Sto (fr : Hp) (r : Ro) (m : Mp) (s : L2.St) (H : Hp) : Prop where
  mst : MSt fr m H
  len : r.length = s.length
  slot : ∀ (i : Nat) (d : Dt), r[i]? = some (some d) → ∃ v, s[i]? = some (some v) ∧ Rep H v d

section
variable {fr fr' : Hp} {r r' : Ro} {m m' : Mp} {s s' : L2.St} {H H' : Hp} {a p : Addr}
theorem MSt.free (S : MSt fr m H) (h : H a = none) : m a = none := by
  cases e : m a with
  | none => rfl
  | some o => obtain ⟨u, z, _⟩ := (S.mem a o e).is; rw [h] at z; cases z
theorem MSt.freeF (S : MSt fr m H) (h : H a = none) : fr a = none := by
  cases e : fr a with
  | none => rfl
  | some o => have z := S.frm a o e; rw [h] at z; cases z
theorem MSt.less (S : MSt fr m H) (l : MLe m' m) : MSt fr m' H := ⟨fun a o e => S.mem a o (l a o e), S.frm, fun a o e => S.sep a o (l a o e)⟩
theorem MSt.lessF (S : MSt fr m H) (l : ∀ a o, fr' a = some o → fr a = some o) : MSt fr' m H := ⟨S.mem, fun a o e => S.frm a o (l a o e), fun a o e => by
  cases q : fr' a with
  | none => rfl
  | some u => have z := l a u q; rw [S.sep a o e] at z; cases z⟩
theorem Sto.less (S : Sto fr r m s H) (l : MLe m' m) : Sto fr r m' s H := ⟨S.mst.less l, S.len, S.slot⟩
theorem Sto.lessF (S : Sto fr r m s H) (l : ∀ a o, fr' a = some o → fr a = some o) : Sto fr' r m s H := ⟨S.mst.lessF l, S.len, S.slot⟩
/-- a new object that is not told -/
theorem MSt.junk {o : HO} (S : MSt fr m H) (h : H p = none) : MSt fr m (upd H p o) :=
  ⟨fun a o e => (S.mem a o e).keep (TupLe.new h) (upd_ne (fun z => by have q := S.free h; rw [z, q] at e; cases e)), fun a o e => by
    rw [upd_ne (ne_of_none (S.frm a o e) h)]; exact S.frm a o e, S.sep⟩
/-- a new object, told -/
theorem MSt.new {o : MO} {u : HO} (S : MSt fr m H) (h : H p = none) (ro : RepM (upd H p u) p o) : MSt fr (mu m p o) (upd H p u) := by
  refine ⟨fun a q e => ?_, fun a q e => ?_, fun a q e => ?_⟩
  · by_cases z : a = p
    · subst z; rw [mu_same] at e; cases e; exact ro
    · rw [mu_ne z] at e; exact (S.mem a q e).keep (TupLe.new h) (upd_ne z)
  · rw [upd_ne (ne_of_none (S.frm a q e) h)]; exact S.frm a q e
  · by_cases z : a = p
    · subst z; exact S.freeF h
    · rw [mu_ne z] at e; exact S.sep a q e
/-- a told object is changed -/
theorem MSt.mut {o o' : MO} {u : HO} (S : MSt fr m H) (h : m p = some o) (ro : RepM (upd H p u) p o') : MSt fr (mu m p o') (upd H p u) ∧ TupLe H (upd H p u) := by
  obtain ⟨w, hw, nt⟩ := (S.mem p o h).is
  have t : TupLe H (upd H p u) := TupLe.mut hw nt
  refine ⟨⟨fun a q e => ?_, fun a q e => ?_, fun a q e => ?_⟩, t⟩
  · by_cases z : a = p
    · subst z; rw [mu_same] at e; cases e; exact ro
    · rw [mu_ne z] at e; exact (S.mem a q e).keep t (upd_ne z)
  · have n := S.sep p o h
    rw [upd_ne (fun z => by rw [z, n] at e; cases e)]; exact S.frm a q e
  · by_cases z : a = p
    · subst z; exact S.sep _ o h
    · rw [mu_ne z] at e; exact S.sep a q e
theorem Sto.at (S : Sto fr r m s H) (t : TupLe H H') (h : MSt fr' m' H') : Sto fr' r m' s H' := ⟨h, S.len, fun i d e => by
  obtain ⟨v, h1, h2⟩ := S.slot i d e; exact ⟨v, h1, h2.go t⟩⟩
theorem Sto.junk {o : HO} (S : Sto fr r m s H) (h : H p = none) : Sto fr r m s (upd H p o) := S.at (TupLe.new h) (S.mst.junk h)
theorem Sto.new {o : MO} {u : HO} (S : Sto fr r m s H) (h : H p = none) (ro : RepM (upd H p u) p o) : Sto fr r (mu m p o) s (upd H p u) := S.at (TupLe.new h) (S.mst.new h ro)
theorem Sto.mut {o o' : MO} {u : HO} (S : Sto fr r m s H) (h : m p = some o) (ro : RepM (upd H p u) p o') : Sto fr r (mu m p o') s (upd H p u) := S.at (S.mst.mut h ro).2 (S.mst.mut h ro).1
theorem Sto.set {v : V} {d : Dt} (S : Sto fr r m s H) (i : Nat) (h : Rep H v d) : Sto fr (r.set i (some d)) m (s.set i (some v)) H := by
  refine ⟨S.mst, by rw [List.length_set, List.length_set]; exact S.len, fun j e q => ?_⟩
  by_cases z : j = i
  · subst z
    have hj : j < r.length := by
      have := (List.getElem?_eq_some_iff.mp q).1
      rw [List.length_set] at this; exact this
    rw [List.getElem?_set_self hj] at q
    cases q
    exact ⟨v, List.getElem?_set_self (by rw [← S.len]; exact hj), h⟩
  · rw [List.getElem?_set_ne (Ne.symm z)] at q ⊢
    exact S.slot j e q
/-- slots forgotten -/
def wip (r : Ro) : List Nat → Ro
  | [] => r
  | v :: vs => (wip r vs).set v none
theorem Sto.wip : ∀ (vs : List Nat) {r : Ro} {s : L2.St}, Sto fr r m s H → Sto fr (TB.wip r vs) m (wipe s vs) H
  | [], _, _, S => S
  | v :: vs, r, s, S => by
    have ih := Sto.wip vs S
    refine ⟨ih.mst, ?_, fun j e q => ?_⟩
    · show ((TB.wip r vs).set v none).length = ((wipe s vs).set v none).length
      rw [List.length_set, List.length_set]; exact ih.len
    · have q' : ((TB.wip r vs).set v none)[j]? = some (some e) := q
      show ∃ w, ((wipe s vs).set v none)[j]? = some (some w) ∧ _
      by_cases z : v = j
      · subst z
        by_cases hv : v < (TB.wip r vs).length
        · rw [List.getElem?_set_self hv] at q'; cases q'
        · rw [List.getElem?_eq_none (by rw [List.length_set]; omega)] at q'; cases q'
      · rw [List.getElem?_set_ne z] at q' ⊢
        exact ih.slot j e q'
/-- weaker slots -/
theorem Sto.weak (S : Sto fr r m s H) (hl : r'.length = r.length) (w : ∀ (i : Nat) d, r'[i]? = some (some d) → r[i]? = some (some d)) : Sto fr r' m s H :=
  ⟨S.mst, hl.trans S.len, fun i d e => S.slot i d (w i d e)⟩
end

/-! ### what evaluates to what -/
/-- a value; nothing that is told changes -/
def Ev (te : TE) (r : Ro) (m : Mp) (d : Dt) : Prop := ∀ fr s H, Sto fr r m s H → ∀ Q : VK, (∀ v H', Sto fr r m s H' → TupLe H H' → Rep H' v d → Q v H') → te s H Q
/-- a new list or dict -/
def EvN (te : TE) (r : Ro) (m : Mp) (o : MO) : Prop := ∀ fr s H, Sto fr r m s H → ∀ Q : VK, (∀ a H', m a = none → fr a = none → Sto fr r (mu m a o) s H' → TupLe H H' → Q (.ref a) H') → te s H Q
/-- anything -/
def EvX (te : TE) (r : Ro) (m : Mp) (P : Dt → Mp → Prop) : Prop := ∀ fr s H, Sto fr r m s H → ∀ Q : VK, (∀ v d m' H', P d m' → Sto fr r m' s H' → TupLe H H' → Rep H' v d → Q v H') → te s H Q
def EvT (tt : TT) (r : Ro) (m : Mp) (b : Bool) : Prop := ∀ fr s H, Sto fr r m s H → ∀ Q : Bool → Hp → Prop, (∀ H', Sto fr r m s H' → TupLe H H' → Q b H') → tt s H Q
def EvTX (tt : TT) (r : Ro) (m : Mp) (P : Bool → Mp → Prop) : Prop := ∀ fr s H, Sto fr r m s H → ∀ Q : Bool → Hp → Prop, (∀ b m' H', P b m' → Sto fr r m' s H' → TupLe H H' → Q b H') → tt s H Q
def EvA (ta : TA) (r : Ro) (m : Mp) (ds : List Dt) : Prop := ∀ fr s H, Sto fr r m s H → ∀ Q : List V → Hp → Prop, (∀ vs H', Sto fr r m s H' → TupLe H H' → RepAll H' vs ds → Q vs H') → ta s H Q
def EvAX (ta : TA) (r : Ro) (m : Mp) (P : List Dt → Mp → Prop) : Prop := ∀ fr s H, Sto fr r m s H → ∀ Q : List V → Hp → Prop, (∀ vs ds m' H', P ds m' → Sto fr r m' s H' → TupLe H H' → RepAll H' vs ds → Q vs H') → ta s H Q
/-- an operation of two values -/
def Op (rr : R2) (x y : Dt) (m : Mp) (z : Dt) : Prop := ∀ fr r s H vx vy, Sto fr r m s H → Rep H vx x → Rep H vy y → ∀ Q : VK, (∀ v H', Sto fr r m s H' → TupLe H H' → Rep H' v z → Q v H') → rr vx vy H Q
def OpN (rr : R2) (x y : Dt) (m : Mp) (o : MO) : Prop := ∀ fr r s H vx vy, Sto fr r m s H → Rep H vx x → Rep H vy y → ∀ Q : VK, (∀ a H', m a = none → fr a = none → Sto fr r (mu m a o) s H' → TupLe H H' → Q (.ref a) H') → rr vx vy H Q
/-- a call by values -/
abbrev RC1 := List V → Hp → VK → Prop
def Ca (rr : RC1) (ds : List Dt) (m : Mp) (z : Dt) : Prop := ∀ fr r s H vs, Sto fr r m s H → RepAll H vs ds → ∀ Q : VK, (∀ v H', Sto fr r m s H' → TupLe H H' → Rep H' v z → Q v H') → rr vs H Q
def CaN (rr : RC1) (ds : List Dt) (m : Mp) (o : MO) : Prop := ∀ fr r s H vs, Sto fr r m s H → RepAll H vs ds → ∀ Q : VK, (∀ a H', m a = none → fr a = none → Sto fr r (mu m a o) s H' → TupLe H H' → Q (.ref a) H') → rr vs H Q
end TB
set_option Elab.async false
set_option linter.all false
set_option autoImplicit false
set_option maxRecDepth 100000
set_option maxHeartbeats 4000000
/-! TB, the rules of expressions that HandS lacks. -/
namespace TB
open PySem PySem.Spec PyProof.Rows L2 RT

section
variable {X : Cx}
/-- a new tuple whose object has no dict -/
def FrT (xs : List V) : Hp → VK → Prop := fun H Q => ∀ (p : Addr) (o : Obj), H p = none → PlO o → Q (.ref p) (upd H p (.frz o (.tup xs)))
theorem frt_laid {pins : List (Addr × Obj)} {s : L2.St} {H : Hp} {st : Shared} {xs : List V} {us : List Value} {Q : VK} (I : Inv X pins s H st) (r : Vals xs us) (z : xs.length ≤ sizeLine) (q : FrT xs H Q) :
    EP X pins s Q (.ref st.heap.objs.size) { st with heap := st.heap.push { cls := .type "tuple", data := .seq us.toArray } } := by
  refine ⟨.ref st.heap.objs.size, upd H st.heap.objs.size (.frz { cls := .type "tuple", data := .seq us.toArray } (.tup xs)), I.laid (t' := st.toks) (fun b u e => Heap.get?_push_of_some _ e) (Nat.le_refl _) ?_, rfl, q _ _ (I.hok.fresh (Nat.le_refl _)) ⟨rfl, rfl⟩⟩
  exact ⟨Heap.get?_push_size _ rfl, z, us, r, IsTup.new _ _⟩
def tTupF (t : TA) : TE := fun σ H Q => t σ H fun xs H1 => xs.length ≤ sizeLine ∧ FrT xs H1 Q
theorem pe_tupF {es : List Expr} {t : TA} {pos : Pos} {x1 : Nat} (h : PA X es t) : PE X (.Tuple es x1 pos) (tTupF t) := by
  refine ⟨fun pins s σ H Q I hq => ?_⟩
  refine wpAny_Tuple_spliced (thn (h.run pos pins s σ H _ I hq) fun us s1 ⟨xs, H1, I1, r, z, q⟩ => ⟨by rw [← r.length]; exact z, ?_⟩)
  exact frt_laid I1 r z q
/-- t[lo:hi]: the whole of it is t itself -/
def rSlF (K : PySem.W.Frag) : V → Option Int → Option Int → Hp → VK → Prop := fun x lo hi H Q => ∃ a xs, x = .ref a ∧ SqT K H a xs ∧
  (HT.sIx xs.length 0 lo = 0 ∧ HT.sIx xs.length xs.length hi = xs.length → Q (.ref a) H) ∧ (¬ (HT.sIx xs.length 0 lo = 0 ∧ HT.sIx xs.length xs.length hi = xs.length) → FrT (cutV xs lo hi) H Q)
theorem sl_tupF : SlR X (rSlF X.K) := by
  intro pins s σ H x v vl vu lo hi sl Q I rx hs pl pu h
  obtain ⟨a, xs, rfl, hx, q1, q2⟩ := h
  cases rx
  obtain ⟨its, r, ht, hz⟩ := I.tuple hx
  have hlen : its.toArray.size = xs.length := by rw [List.size_toArray]; exact r.length.symm
  refine ⟨"tuple", _, PyProof.Rows.slot_tuple_getitem.lookup, ht.typeIs, ?_⟩
  by_cases hw : HT.sIx xs.length 0 lo = 0 ∧ HT.sIx xs.length xs.length hi = xs.length
  · exact getItem_tuple_whole ht hs pl pu (by rw [hlen]; exact hw) ⟨.ref a, H, I, rfl, q1 hw⟩
  · refine HT.getItem_tuple_cut ht hs pl pu (by rw [hlen]; exact hw) ?_ (by rw [hlen]; exact hz)
    rw [hlen]
    exact frt_laid I ((r.drop (HT.sIx xs.length 0 lo)).take (HT.sIx xs.length xs.length hi - HT.sIx xs.length 0 lo)) (Nat.le_trans (cutV_length xs lo hi) hz) (q2 hw)
/-- t + u -/
def rCatF (K : PySem.W.Frag) : R2 := fun x y H Q => ∃ a b xs ys, x = .ref a ∧ y = .ref b ∧ SqT K H a xs ∧ SqT K H b ys ∧ xs.length + ys.length ≤ sizeLine ∧
  (xs = [] → Q (.ref b) H) ∧ (xs ≠ [] → ys = [] → Q (.ref a) H) ∧ (xs ≠ [] → ys ≠ [] → FrT (xs ++ ys) H Q)
theorem op_catF : OpR X (binaryOp .Add) (rCatF X.K) := by
  intro pins s σ H x y v u Q I rx ry h
  obtain ⟨a, b, xs, ys, rfl, rfl, ha, hb, hz, q0, q1, q2⟩ := h
  cases rx
  cases ry
  obtain ⟨its, r1, p1, _⟩ := I.tuple ha
  obtain ⟨its2, r2, p2, _⟩ := I.tuple hb
  by_cases hx : xs = []
  · subst hx
    cases r1
    exact cat_tup0 p1 p2 ⟨.ref b, H, I, rfl, q0 rfl⟩
  · refine HT.cat_tup p1 p2 (fun z => hx (r1.nil_iff.mp z)) (fun z => ⟨.ref a, H, I, rfl, q1 hx (r2.nil_iff.mp z)⟩) (fun z => ?_) (by rw [← r1.length, ← r2.length]; exact hz)
    exact frt_laid I (r1.append r2) (by rw [List.length_append]; exact hz) (q2 hx fun w => z (r2.nil_iff.mpr w))
/-- tuple(x) of a list, of a tuple -/
def rTupF (K : PySem.W.Frag) : RC1 := fun xs H Q => ∃ p ys, xs = [.ref p] ∧ ((SqL K H p ys ∧ FrT ys H Q) ∨ (SqT K H p ys ∧ Q (.ref p) H))
theorem cr_tupF : CallR X (.type "tuple") (rTupF X.K) := by
  intro pins s σ H xs us Q I r h
  obtain ⟨p, ys, rfl, h⟩ := h
  obtain ⟨u, rfl, rx⟩ := vals1 r
  cases rx
  rcases h with ⟨hq, q⟩ | ⟨hq, q⟩
  · obtain ⟨its, r', pl, hz⟩ := I.list hq
    have hlen := r'.length
    refine call_tuple_list pl.isList (fun h' kp => ?_) (by simp only [List.size_toArray] <;> omega)
    have I1 : Inv X pins σ H { s with heap := h' } := I.kept (t' := s.toks) kp
    exact frt_laid I1 r' hz q
  · obtain ⟨its, r', pl, hz⟩ := I.tuple hq
    exact call_tuple_same pl ⟨.ref p, H, I, rfl, q⟩
/-- tuple(reversed(x)), x a list -/
def tTupRevF (K : PySem.W.Frag) (te : TE) : TE := fun σ H Q => te σ H fun v H1 => ∃ (a : Addr) (xs : List V), v = .ref a ∧ SqL K H1 a xs ∧ FrT xs.reverse H1 Q
theorem pe_tupRevF {e : Expr} {te : TE} {p p2 pos pos2 : Pos} (hc : X.calm = true) (hg : Gl X "tuple") (hm : X.mg "tuple" = none) (hg2 : Gl X "reversed") (hm2 : X.mg "reversed" = none) (he : PE X e te)
    (hs : starEach [e] X.env = (false, eval e X.env) :: starEach [] X.env := by rfl)
    (hs2 : starEach [.Call (.Name "reversed" p2) [e] [] pos2] X.env = (false, eval (.Call (.Name "reversed" p2) [e] [] pos2) X.env) :: starEach [] X.env := by rfl) :
    PE X (.Call (.Name "tuple" p) [.Call (.Name "reversed" p2) [e] [] pos2] [] pos) (tTupRevF X.K te) := by
  refine ⟨fun pins s σ H Q I h => ?_⟩
  refine Call_ (ld_blt I hg hm boot_tuple (PyProof.Rows.callWith_type1 (args_cons (Call_ (ld_blt I hg2 hm2 PyProof.Rows.boot_reversed (PyProof.Rows.callWith_type1 (args_cons (thn (he.run pins s σ H _ I h) fun u s1 ⟨v, H1, I1, r1, q1⟩ => args_nil ?_) hs) hs rfl))) hs2) hs2 rfl))
  obtain ⟨a, xs, ev, hq, q⟩ := q1
  subst ev
  obtain rfl : u = Value.ref a := r1
  obtain ⟨its, rv, p', hz⟩ := I1.list hq
  refine call_reversed_list p'.isList (args_nil ?_)
  have k0 : ∀ b o, s1.heap.get? b = some o → (s1.heap.push (revObj a ((its.toArray.size : Int) - 1))).get? b = some o := fun b o e => Heap.get?_push_of_some _ e
  have I2 : Inv X pins σ H1 { s1 with heap := s1.heap.push (revObj a ((its.toArray.size : Int) - 1)) } := I1.kept (t' := s1.toks) k0
  obtain ⟨f0, f1, f2, f3, f4, f5⟩ := I1.fpOk (H' := H1) (b := s1.heap.objs.size) (Nat.le_refl _) (I1.hok.fresh (Nat.le_refl _))
  have hl := p'.isList
  obtain ⟨ol, hol, _⟩ := id hl
  have hne : a ≠ s1.heap.objs.size := Nat.ne_of_lt (Heap.lt_size hol)
  have hn : its.toArray.size ≤ sizeLine := by rw [List.size_toArray, ← rv.length]; exact hz
  refine call_tuple_rev (s := { s1 with heap := s1.heap.push (revObj a ((its.toArray.size : Int) - 1)) }) (I1.ok.hd hc) ⟨_, Heap.get?_push_size _ rfl, rfl, rfl⟩ (hl.push _) hne hn fun h' tk acc hk hi => ?_
  have I3 : Inv X pins σ H1 { s1 with heap := h', toks := tk } := I2.turned (t' := tk) (fun b o hb e => hk b o hb e) f0 f1 f3 f4 f5
  have fin := frt_laid I3 (vals_rev rv hi) (by rw [List.length_reverse]; exact hz) q
  rw [Array.toArray_toList] at fin
  exact fin

/-! ### methods of tuples -/
def isFrT (H : Hp) (x : V) : Prop := ∃ (a : Addr) (o : Obj) (xs : List V), x = .ref a ∧ H a = some (.frz o (.tup xs)) ∧ PlO o
def tTM (rr : V → List V → Hp → VK → Prop) (to : TE) (t : TA) : TE := fun σ H Q => to σ H fun x H1 => isFrT H1 x ∧ t σ H1 fun xs H2 => rr x xs H2 Q
theorem pe_tm {o e : Expr} {es : List Expr} {to : TE} {t : TA} {name : Str} {apos cpos : Pos} {id : String} {rr : V → List V → Hp → VK → Prop}
    (slot : Slot "tuple" name id) (hty : typeOf (.builtin id) = pure (.type "method_descriptor")) (hm : MtR X id rr) (ho : PE X o to) (ha : PA X (e :: es) t)
    (hbase : attributeBase o name X.env (eval o X.env) = eval o X.env := by rfl)
    (hfew : ((backTo cpos (starEach (e :: es) X.env)).all (fun x => !x.1) && (backToKw cpos (keywordEach [] X.env)).all (fun x => x.1.isSome)
      && decide ((e :: es).length + ([] : List Keyword).length + (if ([] : List Keyword).isEmpty then 0 else 1) < 30)) = true := by rfl)
    (hline : (apos.endLine == cpos.line) = true := by rfl) (hs : starEach (e :: es) X.env = (false, eval e X.env) :: starEach es X.env := by rfl) (hplain : (backTo cpos (starEach es X.env)).any (·.1) = false := by rfl) :
    PE X (.Call (.Attribute o name apos) (e :: es) [] cpos) (tTM rr to t) := by
  refine ⟨fun pins s σ H Q I h => ?_⟩
  refine wpAny_Call_method_late hbase hfew hline rfl (thn (ho.run pins s σ H _ I h) fun v s1 ⟨x, H1, I1, r1, ty, q1⟩ => ?_)
  obtain ⟨a, ob, xs, rfl, hf, hd⟩ := ty
  obtain rfl : v = Value.ref a := r1
  obtain ⟨g1, _, its, _, ⟨o2, g2, hc, _⟩⟩ := I1.hok a _ hf
  refine ⟨"tuple", id, PySem.F.plainAttrs_tuple, slot, hty, ⟨o2, g2, hc⟩, fun b eb => ?_, ?_⟩
  · cases eb
    exact ⟨ob, g1, hd.1⟩
  have hA := ha.run cpos pins s1 σ H1 _ I1 q1
  rw [hs] at hA ⊢
  refine Calls.callWith_builtin (by show (false || (backTo cpos (starEach es X.env)).any (·.1)) = false; rw [hplain] <;> rfl) (Calls.evalArgs_plain ?_)
  exact thn hA fun us s2 ⟨vs, H2, I2, r2, q2⟩ => hm pins s2 σ H2 (V.ref a) vs (Value.ref a) us Q I2 rfl r2 q2
def rTIdx (K : PySem.W.Frag) : V → List V → Hp → VK → Prop := fun x xs H Q => ∃ p, ∃ ys : List Str, ∃ z j, x = .ref p ∧ xs = [.str z] ∧ SqT K H p (ys.map V.str) ∧ ys[j]? = some z ∧ (∀ m, m < j → ys[m]? ≠ some z) ∧ Q (.int (j : Nat)) H
theorem mt_tidx : MtR X "tuple.index" (rTIdx X.K) := mt_tup_index

/-! ### three comparisons in a row -/
def tChain3 (r1 r2 r3 : R2) (ta tb tc td : TE) : TE := fun σ H Q => ta σ H fun x H1 => tb σ H1 fun y H2 => r1 x y H2 fun z H3 => ∃ k, z = .bl k ∧
  (if k = true then tc σ H3 fun w' H4 => r2 y w' H4 fun z2 H5 => ∃ k2, z2 = .bl k2 ∧ (if k2 = true then td σ H5 fun u' H6 => r3 w' u' H6 Q else Q (.bl false) H5) else Q (.bl false) H3)
theorem pe_chain3 {a b c d : Expr} {ta tb tc td : TE} {pos : Pos} {op op' op2 : CmpOp} {r r' r2 : R2} (ho : OpR X (compareOp op) r) (ho' : OpR X (compareOp op') r') (ho2 : OpR X (compareOp op2) r2) (ha : PE X a ta) (hb : PE X b tb) (hc : PE X c tc) (hd : PE X d td)
    (hm : lastMarks [op, op', op2] [b, c, d] = false := by with_unfolding_all rfl) : PE X (.Compare a [op, op', op2] [b, c, d] pos) (tChain3 r r' r2 ta tb tc td) := by
  refine ⟨fun pins s σ H Q I h => ?_⟩
  refine Compare_chain (thn (ha.run pins s σ H _ I h) fun v s1 ⟨x, H1, I1, r1, q1⟩ => chain_link (thn (hb.run pins s1 σ H1 _ I1 q1) fun u s2 ⟨y, H2, I2, q2r, q2⟩ =>
    thn (ho pins s2 σ H2 x y v u _ I2 r1 q2r q2) fun dd s3 ⟨z, H3, I3, r3, k, e, q3⟩ => ?_)) hm
  subst e
  cases r3
  refine wpAny_truthy_bool ?_
  cases k with
  | false => exact ite_ff ⟨.bl false, H3, I3, rfl, q3⟩
  | true =>
    refine ite_tt (chain_link (thn (hc.run pins s3 σ H3 _ I3 q3) fun w' s4 ⟨z', H4, I4, r4, q4⟩ => thn (ho' pins s4 σ H4 y z' u w' _ I4 q2r r4 q4) fun d2 s5 ⟨z2, H5, I5, r5, k2, e2, q5⟩ => ?_))
    subst e2
    cases r5
    refine wpAny_truthy_bool ?_
    cases k2 with
    | false => exact ite_ff ⟨.bl false, H5, I5, rfl, q5⟩
    | true => exact ite_tt (chain_last (thn (hd.run pins s5 σ H5 _ I5 q5) fun w6 s6 ⟨z6, H6, I6, r6, q6⟩ => ho2 pins s6 σ H6 z' z6 w' w6 Q I6 r4 r6 q6))

/-! ### x in t, data of any depth in a tuple -/
def rInT (K : PySem.W.Frag) : R2 := fun x y H Q => ∃ d ds, Dp K H x d ∧ Dp K H y (.tuple ds) ∧ SeqAt.shaped d = true ∧ SeqAt.shaped (.tuple ds) = true ∧ Q (.bl (ds.any fun z => PyData.eqv z d)) H
theorem op_inT (hu : X.A.units + 65 < cLine) : OpR X (compareOp .In) (rInT X.K) := by
  intro pins s σ H x y v u Q I rx ry h
  obtain ⟨d, ds, hd, he, sd, se, q⟩ := h
  obtain ⟨as, r1⟩ := Dp.reads I d x v hd rx
  obtain ⟨bs, r2⟩ := Dp.reads I (.tuple ds) y u he ry
  exact SeqAt.in_tuple_reads r2 r1 (SeqAt.canLay_of_shaped se) (SeqAt.canLay_of_shaped sd) (room_in_shaped sd hu) ⟨.bl _, H, I, rfl, q⟩
/-! ### x < y, alike data -/
def rLtD (K : PySem.W.Frag) : R2 := fun x y H Q => ∃ d e, Dp K H x d ∧ Dp K H y e ∧ PySem.W.alike d e = true ∧ d ≠ .none ∧ min d.depth e.depth ≤ 60 ∧ Q (.bl (PySem.W.dataLt d e)) H
theorem op_ltD (hu : X.A.units + 64 < cLine) : OpR X (compareOp .Lt) (rLtD X.K) := by
  intro pins s σ H x y v u Q I rx ry h
  obtain ⟨d, e, hd, he, ha, hn, hz, q⟩ := h
  obtain ⟨as, r1⟩ := Dp.reads I d x v hd rx
  obtain ⟨bs, r2⟩ := Dp.reads I e y u he ry
  exact PySem.W.rcLt_alike d e X.A s v u as bs r1 r2 ha hn (by omega) X.prog X.w X.xe _ ⟨.bl _, H, I, rfl, q⟩
/-! ### sorted(xs), alike data -/
def rSortD (K : PySem.W.Frag) : RC1 := fun vs H Q => ∃ (a : Addr) (ps : List (V × PyData)), vs = [.ref a] ∧ SqL K H a (ps.map (·.1)) ∧ (∀ p ∈ ps, Dp K H p.1 p.2) ∧ PySem.W.AllAlike (ps.map (·.2)) ∧ PySem.W.Sortable (ps.map (·.2)) ∧
  (∀ p ∈ ps, p.2.depth ≤ 60) ∧ ∀ q, H q = none → Q (.ref q) (upd H q (.lst ((ps.mergeSort (PySem.W.dataLe false (·.2))).map (·.1))))
theorem each_vals : ∀ {ps : List (V × PyData)} {us : List Value}, Vals (ps.map (·.1)) us → PySem.W.EachIs (fun v (b : V × PyData) => RelV b.1 v) us ps
  | [], _, r => by
    cases r
    exact .nil
  | p :: ps, _, r => by
    rw [List.map_cons] at r
    cases r with
    | cons h t => exact .cons h (each_vals t)
theorem vals_each : ∀ {ps : List (V × PyData)} {us : List Value}, PySem.W.EachIs (fun v (b : V × PyData) => RelV b.1 v) us ps → Vals (ps.map (·.1)) us
  | _, _, .nil => .nil
  | _, _, .cons h t => .cons h (vals_each t)
theorem cr_sortD (hu : X.A.units + 64 < cLine) : CallR X (.builtin "sorted") (rSortD X.K) := by
  intro pins s σ H vs us Q I r h
  obtain ⟨a, ps, rfl, hs, hd, hal, hk, hdep, q⟩ := h
  obtain ⟨u, rfl, ru⟩ := vals1 r
  cases ru
  obtain ⟨its, rv, hl, hz⟩ := I.list hs
  have e := each_vals rv
  have er : PySem.W.EachIs (fun v (b : V × PyData) => ∃ as, Reads s.heap v b.2 as) its ps := (PySem.W.each_mem e).mono fun v b ⟨h1, h2⟩ => Dp.reads I b.2 b.1 v (hd b h2) h1
  rw [List.length_map] at hz
  refine PySem.W.sorted_data (enc := fun b : V × PyData => b.2) (R := fun v b => RelV b.1 v) hl.isList e er hal hk hz (fun b hb => by have := hdep b hb; omega) fun out ho eo => ?_
  obtain ⟨ep, he'⟩ := PyProof.Rows.sortedAll_at s.heap its out.toArray
  have rv' := vals_each eo
  have hlen : ((ps.mergeSort (PySem.W.dataLe false (·.2))).map (·.1)).length ≤ sizeLine := by rw [List.length_map, List.length_mergeSort]; exact hz
  exact ⟨.ref _, upd H (s.heap.objs.size + 1) (.lst ((ps.mergeSort (PySem.W.dataLe false (·.2))).map (·.1))), I.laid (t' := s.toks) (fun _ _ => PyProof.Rows.sortedAll_old) (Nat.le_succ _) ⟨hlen, out, ep, rv', he'⟩, rfl, q _ (I.hok.fresh (Nat.le_succ _))⟩
end
end TB
set_option Elab.async false
set_option linter.all false
set_option autoImplicit false
set_option maxRecDepth 100000
set_option maxHeartbeats 4000000
/-! TB, expressions: what a reading evaluates to. -/
namespace TB
open PySem L2

section
variable {fr : Hp} {r : Ro} {m m' : Mp} {s : L2.St} {H H' : Hp} {a : Addr}
open Classical in
/-- the frame, with what m' tells beyond m -/
noncomputable def hid (fr : Hp) (m m' : Mp) (H : Hp) : Hp := fun b => if m b = none ∧ m' b ≠ none then H b else fr b
theorem Sto.hide (S : Sto fr r m' s H) (l : MLe m m') : Sto (hid fr m m' H) r m s H := by
  refine ⟨⟨fun b o e => S.mst.mem b o (l b o e), fun b o e => ?_, fun b o e => ?_⟩, S.len, S.slot⟩
  · unfold hid at e
    split at e
    · exact e
    · exact S.mst.frm b o e
  · unfold hid
    rw [if_neg (fun z => by rw [e] at z; cases z.1)]
    exact S.mst.sep b o (l b o e)
theorem MSt.unhide (S0 : MSt fr m' H) (l : MLe m m') (t : TupLe H H') (S : MSt (hid fr m m' H) m H') : MSt fr m' H' := by
  refine ⟨fun b o e => ?_, fun b o e => ?_, S0.sep⟩
  · cases q : m b with
    | none =>
      have r0 := S0.mem b o e
      obtain ⟨u, hu, _⟩ := r0.is
      have e1 : hid fr m m' H b = some u := by unfold hid; rw [if_pos ⟨q, by rw [e]; exact fun z => nomatch z⟩]; exact hu
      exact r0.keep t ((S.frm b u e1).trans hu.symm)
    | some o2 =>
      have e2 := l b o2 q
      rw [e] at e2
      cases e2
      exact S.mem b o q
  · refine S.frm b o ?_
    unfold hid
    rw [if_neg (fun z => ?_)]
    · exact e
    · cases q : m' b with
      | none => exact z.2 q
      | some o2 => have := S0.sep b o2 q; rw [e] at this; cases this
theorem Sto.unhide (S0 : Sto fr r m' s H) (l : MLe m m') (t : TupLe H H') (S : Sto (hid fr m m' H) r m s H') : Sto fr r m' s H' := ⟨S0.mst.unhide l t S.mst, S.len, S.slot⟩
end

section
variable {K : PySem.W.Frag} {r : Ro} {m m' : Mp} {ta tb tc te : TE} {tt tu : TT} {x y z d : Dt} {rr : R2}

/-! ### more is told -/
theorem Ev.mono (h : Ev te r m d) (l : MLe m m') : Ev te r m' d := fun fr s H S Q q =>
  h _ s H (S.hide l) Q fun v H' S' t rv => q v H' (S.unhide l t S') t rv
theorem EvT.mono {b : Bool} (h : EvT tt r m b) (l : MLe m m') : EvT tt r m' b := fun fr s H S Q q =>
  h _ s H (S.hide l) Q fun H' S' t => q H' (S.unhide l t S') t
theorem EvA.mono {tr : TA} {ds : List Dt} (h : EvA tr r m ds) (l : MLe m m') : EvA tr r m' ds := fun fr s H S Q q =>
  h _ s H (S.hide l) Q fun v H' S' t rv => q v H' (S.unhide l t S') t rv
theorem Ev.new {a : Addr} {o : MO} (h : Ev te r m d) (n : m a = none) : Ev te r (mu m a o) d := h.mono (MLe.new n)
theorem Ev.is {d' : Dt} (h : Ev te r m d) (e : d = d') : Ev te r m d' := e ▸ h
theorem EvT.is {b b' : Bool} (h : EvT tt r m b) (e : b = b') : EvT tt r m b' := e ▸ h
theorem EvN.is {o o' : MO} (h : EvN te r m o) (e : o = o') : EvN te r m o' := e ▸ h
theorem Op.is {d' : Dt} (h : Op rr x y m z) (e : z = d') : Op rr x y m d' := e ▸ h

/-! ### names, constants -/
theorem ev_var {i : Nat} (h : r[i]? = some (some d)) : Ev (tVar i) r m d := fun fr s H S Q q => by
  obtain ⟨v, h1, h2⟩ := S.slot i d h
  exact ⟨v, h1, q v H S (TupLe.refl H) h2⟩
theorem ev_ci {i : Int} : Ev (tC (.int i)) r m (.int i) := fun fr s H S Q q => q _ H S (TupLe.refl H) (.int i)
theorem ev_cs {i : Str} : Ev (tC (.str i)) r m (.str i) := fun fr s H S Q q => q _ H S (TupLe.refl H) (.str i)
theorem ev_cb {i : Bool} : Ev (tC (.bl i)) r m (.bl i) := fun fr s H S Q q => q _ H S (TupLe.refl H) (.bl i)
theorem ev_cn : Ev (tC .non) r m .non := fun fr s H S Q q => q _ H S (TupLe.refl H) .non

/-! ### operations -/
theorem ev_op (ha : Ev ta r m x) (hb : Ev tb r m y) (ho : Op rr x y m z) : Ev (tOp rr ta tb) r m z := fun fr s H S Q q =>
  ha fr s H S _ fun vx H1 S1 t1 r1 => hb fr s H1 S1 _ fun vy H2 S2 t2 r2 => ho fr r s H2 vx vy S2 (r1.go t2) r2 Q fun v H3 S3 t3 r3 => q v H3 S3 ((t1.trans t2).trans t3) r3
theorem en_op {o : MO} (ha : Ev ta r m x) (hb : Ev tb r m y) (ho : OpN rr x y m o) : EvN (tOp rr ta tb) r m o := fun fr s H S Q q =>
  ha fr s H S _ fun vx H1 S1 t1 r1 => hb fr s H1 S1 _ fun vy H2 S2 t2 r2 => ho fr r s H2 vx vy S2 (r1.go t2) r2 Q fun a H3 n f S3 t3 => q a H3 n f S3 ((t1.trans t2).trans t3)
/-- the left one a new object -/
theorem ev_opN1 {o : MO} (ha : EvN ta r m o) (hb : Ev tb r m y) (ho : ∀ a, m a = none → Op rr (.ref a) y (mu m a o) z) : Ev (tOp rr ta tb) r m z := fun fr s H S Q q =>
  ha fr s H S _ fun a H1 n f S1 t1 => hb.new n fr s H1 S1 _ fun vy H2 S2 t2 r2 => ho a n fr r s H2 (.ref a) vy S2 (.ref a) r2 Q fun v H3 S3 t3 r3 => q v H3 (S3.less (MLe.new n)) ((t1.trans t2).trans t3) r3
theorem ev_opN2 {o : MO} (ha : Ev ta r m x) (hb : EvN tb r m o) (ho : ∀ a, m a = none → Op rr x (.ref a) (mu m a o) z) : Ev (tOp rr ta tb) r m z := fun fr s H S Q q =>
  ha fr s H S _ fun vx H1 S1 t1 r1 => hb fr s H1 S1 _ fun a H2 n f S2 t2 => ho a n fr r s H2 vx (.ref a) S2 (r1.go t2) (.ref a) Q fun v H3 S3 t3 r3 => q v H3 (S3.less (MLe.new n)) ((t1.trans t2).trans t3) r3
theorem ev_opNN {o o' : MO} (ha : EvN ta r m o) (hb : ∀ a, m a = none → EvN tb r (mu m a o) o') (ho : ∀ a b, m a = none → a ≠ b → Op rr (.ref a) (.ref b) (mu (mu m a o) b o') z) : Ev (tOp rr ta tb) r m z := fun fr s H S Q q =>
  ha fr s H S _ fun a H1 n f S1 t1 => hb a n fr s H1 S1 _ fun b H2 n2 f2 S2 t2 => by
    have ne : a ≠ b := fun e => by rw [← e, mu_same] at n2; cases n2
    exact ho a b n ne fr r s H2 (.ref a) (.ref b) S2 (.ref a) (.ref b) Q fun v H3 S3 t3 r3 => q v H3 ((S3.less (MLe.new n2)).less (MLe.new n)) ((t1.trans t2).trans t3) r3
theorem en_opN1 {o o' : MO} (ha : EvN ta r m o) (hb : Ev tb r m y) (ho : ∀ a, m a = none → OpN rr (.ref a) y (mu m a o) o') : EvN (tOp rr ta tb) r m o' := fun fr s H S Q q =>
  ha fr s H S _ fun a H1 n f S1 t1 => hb.new n fr s H1 S1 _ fun vy H2 S2 t2 r2 => ho a n fr r s H2 (.ref a) vy S2 (.ref a) r2 Q fun b H3 n3 f3 S3 t3 => by
    have ne : b ≠ a := fun e => by rw [e, mu_same] at n3; cases n3
    rw [mu_ne ne] at n3
    exact q b H3 n3 f3 (S3.less (MLe.both (MLe.new n))) ((t1.trans t2).trans t3)

theorem op_I0i {f : Int → Int → Int} {i j : Int} : Op (rI0 fun i j => .int (f i j)) (.int i) (.int j) m (.int (f i j)) := fun fr r s H vx vy S hx hy Q q => by
  cases hx; cases hy
  exact ⟨i, j, rfl, rfl, q _ H S (TupLe.refl H) (.int _)⟩
theorem op_I0b {f : Int → Int → Bool} {i j : Int} : Op (rI0 fun i j => .bl (f i j)) (.int i) (.int j) m (.bl (f i j)) := fun fr r s H vx vy S hx hy Q q => by
  cases hx; cases hy
  exact ⟨i, j, rfl, rfl, q _ H S (TupLe.refl H) (.bl _)⟩
theorem op_Ii {C : Int → Int → Prop} {f : Int → Int → Int} {i j : Int} (hc : C i j) : Op (rI C fun i j => .int (f i j)) (.int i) (.int j) m (.int (f i j)) := fun fr r s H vx vy S hx hy Q q => by
  cases hx; cases hy
  exact ⟨i, j, rfl, rfl, hc, q _ H S (TupLe.refl H) (.int _)⟩
theorem op_eqS {x y : Str} : Op rEq (.str x) (.str y) m (.bl (decide (x = y))) := fun fr r s H vx vy S hx hy Q q => by
  cases hx; cases hy
  have e : decide (V.str x = V.str y) = decide (x = y) := decide_eq_decide.mpr ⟨fun z => V.str.inj z, fun z => by rw [z]⟩
  refine ⟨rfl, ?_⟩
  rw [e]
  exact q _ H S (TupLe.refl H) (.bl _)
theorem op_eqI {x y : Int} : Op rEq (.int x) (.int y) m (.bl (decide (x = y))) := fun fr r s H vx vy S hx hy Q q => by
  cases hx; cases hy
  have e : decide (V.int x = V.int y) = decide (x = y) := decide_eq_decide.mpr ⟨fun z => V.int.inj z, fun z => by rw [z]⟩
  refine ⟨rfl, ?_⟩
  rw [e]
  exact q _ H S (TupLe.refl H) (.bl _)
theorem op_neS {x y : Str} : Op rNe (.str x) (.str y) m (.bl (!decide (x = y))) := fun fr r s H vx vy S hx hy Q q => by
  cases hx; cases hy
  have e : decide (V.str x = V.str y) = decide (x = y) := decide_eq_decide.mpr ⟨fun z => V.str.inj z, fun z => by rw [z]⟩
  refine ⟨rfl, ?_⟩
  rw [e]
  exact q _ H S (TupLe.refl H) (.bl _)
theorem op_neI {x y : Int} : Op rNe (.int x) (.int y) m (.bl (!decide (x = y))) := fun fr r s H vx vy S hx hy Q q => by
  cases hx; cases hy
  have e : decide (V.int x = V.int y) = decide (x = y) := decide_eq_decide.mpr ⟨fun z => V.int.inj z, fun z => by rw [z]⟩
  refine ⟨rfl, ?_⟩
  rw [e]
  exact q _ H S (TupLe.refl H) (.bl _)
theorem op_neB {x y : Bool} : Op rNe (.bl x) (.bl y) m (.bl (!decide (x = y))) := fun fr r s H vx vy S hx hy Q q => by
  cases hx; cases hy
  have e : decide (V.bl x = V.bl y) = decide (x = y) := decide_eq_decide.mpr ⟨fun z => V.bl.inj z, fun z => by rw [z]⟩
  refine ⟨rfl, ?_⟩
  rw [e]
  exact q _ H S (TupLe.refl H) (.bl _)
/-- is None, is not None -/
def isNon : Dt → Bool
  | .non => true
  | _ => false
theorem ev_isN (ha : Ev ta r m x) : Ev (tIsN ta) r m (.bl (isNon x)) := fun fr s H S Q q =>
  ha fr s H S _ fun vx H1 S1 t1 r1 => by
    have e : decide (vx = V.non) = isNon x := by cases r1 <;> rfl
    rw [e]
    exact q _ H1 S1 t1 (.bl _)
theorem ev_notN (ha : Ev ta r m x) : Ev (tNotN ta) r m (.bl (!isNon x)) := fun fr s H S Q q =>
  ha fr s H S _ fun vx H1 S1 t1 r1 => by
    have e : decide (vx = V.non) = isNon x := by cases r1 <;> rfl
    rw [e]
    exact q _ H1 S1 t1 (.bl _)
theorem op_isB {a b : Bool} : Op rNotB (.bl a) (.bl b) m (.bl (!decide (a = b))) := fun fr r s H vx vy S hx hy Q q => by
  cases hx; cases hy
  exact ⟨a, b, rfl, rfl, q _ H S (TupLe.refl H) (.bl _)⟩
/-- s + t -/
def rCatS : R2 := fun x y H Q => ∃ i j, x = .str i ∧ y = .str j ∧ i.length + j.length ≤ sizeLine ∧ Q (.str (i ++ j)) H
theorem pop_catS {X : Cx} : OpR X (binaryOp .Add) rCatS := op_add_str
theorem op_catStr {x y : Str} (h : x.length + y.length ≤ sizeLine) : Op rCatS (.str x) (.str y) m (.str (x ++ y)) := fun fr r s H vx vy S hx hy Q q => by
  cases hx; cases hy
  exact ⟨x, y, rfl, rfl, h, q _ H S (TupLe.refl H) (.str _)⟩

/-! ### tuples -/
theorem tup_of {H : Hp} {v : V} {ds : List Dt} (h : Rep H v (.tup ds)) : ∃ a o xs, v = .ref a ∧ H a = some (.frz o (.tup xs)) ∧ PlO o ∧ RepAll H xs ds := by
  cases h with
  | tup h1 h2 h3 => exact ⟨_, _, _, rfl, h1, h2, h3⟩
theorem sqt_of {H : Hp} {a : Addr} {o : Obj} {xs : List V} (h : H a = some (.frz o (.tup xs))) : SqT K H a xs := .inl (.inr ⟨o, h⟩)
theorem frt {fr : Hp} {s : L2.St} {H : Hp} {xs : List V} {ds : List Dt} {Q : VK} (S : Sto fr r m s H) (h : RepAll H xs ds) (q : ∀ v H', Sto fr r m s H' → TupLe H H' → Rep H' v (.tup ds) → Q v H') : FrT xs H Q := fun p o hp hd =>
  q _ _ (S.junk hp) (TupLe.new hp) (.tup upd_same hd (h.go (TupLe.new hp)))
theorem op_catT {ds es : List Dt} (hz : ds.length + es.length ≤ sizeLine) : Op (rCatF K) (.tup ds) (.tup es) m (.tup (ds ++ es)) := fun fr r s H vx vy S hx hy Q q => by
  obtain ⟨a, o, xs, rfl, h1, h2, h3⟩ := tup_of hx
  obtain ⟨b, o', ys, rfl, g1, g2, g3⟩ := tup_of hy
  refine ⟨a, b, xs, ys, rfl, rfl, sqt_of h1, sqt_of g1, by rw [h3.length, g3.length]; exact hz, fun e => ?_, fun _ e => ?_, fun _ _ => frt S (h3.append g3) q⟩
  · subst e
    cases h3
    exact q _ H S (TupLe.refl H) hy
  · subst e
    cases g3
    rw [List.append_nil] at *
    exact q _ H S (TupLe.refl H) hx
theorem op_ixT {ds : List Dt} {i : Int} (h : atI ds i = some d) : Op (rIxT K) (.tup ds) (.int i) m d := fun fr r s H vx vy S hx hy Q q => by
  obtain ⟨a, o, xs, rfl, h1, h2, h3⟩ := tup_of hx
  cases hy
  unfold atI at h
  cases e : ixN ds.length i with
  | none => rw [e] at h; cases h
  | some j =>
    rw [e] at h
    obtain ⟨v, g1, g2⟩ := h3.get (i := j) h
    exact ⟨a, xs, i, v, rfl, rfl, sqt_of h1, by unfold atI; rw [h3.length, e]; exact g1, q v H S (TupLe.refl H) g2⟩
theorem op_ixL {a : Addr} {ds : List Dt} {i : Int} (hm : m a = some (.lst ds)) (h : atI ds i = some d) : Op (rIxL K) (.ref a) (.int i) m d := fun fr r s H vx vy S hx hy Q q => by
  cases hx
  cases hy
  obtain ⟨xs, h1, h3⟩ := S.mst.mem a _ hm
  unfold atI at h
  cases e : ixN ds.length i with
  | none => rw [e] at h; cases h
  | some j =>
    rw [e] at h
    obtain ⟨v, g1, g2⟩ := h3.get (i := j) h
    exact ⟨a, xs, i, v, rfl, rfl, SqL.of h1, by unfold atI; rw [h3.length, e]; exact g1, q v H S (TupLe.refl H) g2⟩
theorem atI_n {α : Type} {ds : List α} {j : Nat} {i : Int} {d : α} (e : i = (j : Int)) (h : ds[j]? = some d) : atI ds i = some d := by
  subst e
  have hj := (List.getElem?_eq_some_iff.mp h).1
  unfold atI ixN
  rw [if_pos (by omega), if_pos (by omega)]
  simpa using h
theorem atI_neg1 {α : Type} {ds : List α} {d : α} : atI (ds ++ [d]) (-1) = some d := by
  unfold atI ixN
  rw [if_neg (by omega), if_pos (by simp; omega)]
  have e : ((-1 : Int) + ((ds ++ [d]).length : Nat)).toNat = ds.length := by simp; omega
  rw [e]
  simp
theorem op_ixS {z : Str} {i : Int} {c : Nat} (hz : z.length ≤ sizeLine) (h : atI z.cps.toList i = some c) : Op rIxS (.str z) (.int i) m (.str ⟨#[c]⟩) := fun fr r s H vx vy S hx hy Q q => by
  cases hx; cases hy
  exact ⟨z, i, c, rfl, rfl, hz, h, q _ H S (TupLe.refl H) (.str _)⟩

/-! ### in, not in: flat things -/
theorem inV_str {x : Str} : ∀ {xs : List Str}, inV (.str x) (xs.map V.str) = decide (x ∈ xs)
  | [] => by simp [inV]
  | y :: xs => by
    have ih := inV_str (x := x) (xs := xs)
    unfold inV at ih ⊢
    rw [List.map_cons, List.any_cons, ih]
    have e : eqV (.str y) (.str x) = decide (x = y) := by
      simp only [eqV]
      by_cases h : y = x
      · subst h; simp
      · have h' : ¬ x = y := fun z => h z.symm
        simp [h, h']
    rw [e]
    simp
theorem inV_int {x : Int} : ∀ {xs : List Int}, inV (.int x) (xs.map V.int) = decide (x ∈ xs)
  | [] => by simp [inV]
  | y :: xs => by
    have ih := inV_int (x := x) (xs := xs)
    unfold inV at ih ⊢
    rw [List.map_cons, List.any_cons, ih]
    have e : eqV (.int y) (.int x) = decide (x = y) := by
      simp only [eqV]
      by_cases h : y = x
      · subst h; simp
      · have h' : ¬ x = y := fun z => h z.symm
        simp [h, h']
    rw [e]
    simp
theorem flat_str (xs : List Str) : (xs.map V.str).all flatV = true := by simp [flatV]
theorem flat_int (xs : List Int) : (xs.map V.int).all flatV = true := by simp [flatV]
theorem op_inTS {x : Str} {xs : List Str} : Op (rIn K false) (.str x) (.tup (xs.map .str)) m (.bl (decide (x ∈ xs))) := fun fr r s H vx vy S hx hy Q q => by
  cases hx
  obtain ⟨a, o, ys, rfl, h1, h2, h3⟩ := tup_of hy
  obtain rfl := h3.strs
  refine ⟨a, _, rfl, .inr (sqt_of h1), rfl, flat_str xs, ?_⟩
  show Q (.bl (inV (.str x) (xs.map V.str))) H
  rw [inV_str]
  exact q _ H S (TupLe.refl H) (.bl _)
theorem op_niTS {x : Str} {xs : List Str} : Op (rIn K true) (.str x) (.tup (xs.map .str)) m (.bl (!decide (x ∈ xs))) := fun fr r s H vx vy S hx hy Q q => by
  cases hx
  obtain ⟨a, o, ys, rfl, h1, h2, h3⟩ := tup_of hy
  obtain rfl := h3.strs
  refine ⟨a, _, rfl, .inr (sqt_of h1), rfl, flat_str xs, ?_⟩
  show Q (.bl (!inV (.str x) (xs.map V.str))) H
  rw [inV_str]
  exact q _ H S (TupLe.refl H) (.bl _)
theorem op_inTI {x : Int} {xs : List Int} : Op (rIn K false) (.int x) (.tup (xs.map .int)) m (.bl (decide (x ∈ xs))) := fun fr r s H vx vy S hx hy Q q => by
  cases hx
  obtain ⟨a, o, ys, rfl, h1, h2, h3⟩ := tup_of hy
  obtain rfl := h3.ints
  refine ⟨a, _, rfl, .inr (sqt_of h1), rfl, flat_int xs, ?_⟩
  show Q (.bl (inV (.int x) (xs.map V.int))) H
  rw [inV_int]
  exact q _ H S (TupLe.refl H) (.bl _)
theorem op_niTI {x : Int} {xs : List Int} : Op (rIn K true) (.int x) (.tup (xs.map .int)) m (.bl (!decide (x ∈ xs))) := fun fr r s H vx vy S hx hy Q q => by
  cases hx
  obtain ⟨a, o, ys, rfl, h1, h2, h3⟩ := tup_of hy
  obtain rfl := h3.ints
  refine ⟨a, _, rfl, .inr (sqt_of h1), rfl, flat_int xs, ?_⟩
  show Q (.bl (!inV (.int x) (xs.map V.int))) H
  rw [inV_int]
  exact q _ H S (TupLe.refl H) (.bl _)
theorem op_inLS {a : Addr} {x : Str} {xs : List Str} (hm : m a = some (.lst (xs.map .str))) : Op (rIn K false) (.str x) (.ref a) m (.bl (decide (x ∈ xs))) := fun fr r s H vx vy S hx hy Q q => by
  cases hx; cases hy
  obtain ⟨ys, h1, h3⟩ := S.mst.mem a _ hm
  obtain rfl := h3.strs
  refine ⟨a, _, rfl, .inl (SqL.of h1), rfl, flat_str xs, ?_⟩
  show Q (.bl (inV (.str x) (xs.map V.str))) H
  rw [inV_str]
  exact q _ H S (TupLe.refl H) (.bl _)
theorem op_niLS {a : Addr} {x : Str} {xs : List Str} (hm : m a = some (.lst (xs.map .str))) : Op (rIn K true) (.str x) (.ref a) m (.bl (!decide (x ∈ xs))) := fun fr r s H vx vy S hx hy Q q => by
  cases hx; cases hy
  obtain ⟨ys, h1, h3⟩ := S.mst.mem a _ hm
  obtain rfl := h3.strs
  refine ⟨a, _, rfl, .inl (SqL.of h1), rfl, flat_str xs, ?_⟩
  show Q (.bl (!inV (.str x) (xs.map V.str))) H
  rw [inV_str]
  exact q _ H S (TupLe.refl H) (.bl _)
theorem op_inLI {a : Addr} {x : Int} {xs : List Int} (hm : m a = some (.lst (xs.map .int))) : Op (rIn K false) (.int x) (.ref a) m (.bl (decide (x ∈ xs))) := fun fr r s H vx vy S hx hy Q q => by
  cases hx; cases hy
  obtain ⟨ys, h1, h3⟩ := S.mst.mem a _ hm
  obtain rfl := h3.ints
  refine ⟨a, _, rfl, .inl (SqL.of h1), rfl, flat_int xs, ?_⟩
  show Q (.bl (inV (.int x) (xs.map V.int))) H
  rw [inV_int]
  exact q _ H S (TupLe.refl H) (.bl _)

/-! ### data of any depth -/
mutual
/-- a datum as the library's data -/
def py : Dt → PyData
  | .non => .none
  | .bl b => .bool b
  | .int i => .int i
  | .str x => .str x
  | .tup ds => .tuple (pys ds)
  | .ref _ => .none
def pys : List Dt → List PyData
  | [] => []
  | d :: ds => py d :: pys ds
end
mutual
/-- no list or dict in it -/
def pure : Dt → Bool
  | .ref _ => false
  | .tup ds => pures ds
  | _ => true
def pures : List Dt → Bool
  | [] => true
  | d :: ds => pure d && pures ds
end
theorem pys_map : ∀ (ds : List Dt), pys ds = ds.map py
  | [] => by rw [pys]; rfl
  | d :: ds => by rw [pys, pys_map ds]; rfl
theorem pures_all : ∀ (ds : List Dt), pures ds = ds.all TB.pure
  | [] => by rw [pures]; rfl
  | d :: ds => by rw [pures, pures_all ds]; rfl
mutual
theorem Rep.dp {H : Hp} : ∀ (d : Dt) (v : V), TB.pure d = true → Rep H v d → Dp K H v (py d)
  | .non, _, _, h => by cases h; rw [py]; exact .non
  | .bl b, _, _, h => by cases h; rw [py]; exact .bl b
  | .int i, _, _, h => by cases h; rw [py]; exact .int i
  | .str x, _, _, h => by cases h; rw [py]; exact .str x
  | .ref a, _, p, _ => by rw [TB.pure] at p; cases p
  | .tup ds, _, p, h => by
    rw [TB.pure] at p
    obtain ⟨a, o, xs, rfl, h1, h2, h3⟩ := tup_of h
    rw [py]
    exact .tup (sqt_of h1) (RepAll.dp ds xs p h3)
theorem RepAll.dp {H : Hp} : ∀ (ds : List Dt) (vs : List V), pures ds = true → RepAll H vs ds → DpAll K H vs (pys ds)
  | [], _, _, h => by cases h; rw [pys]; exact .nil
  | d :: ds, _, p, h => by
    rw [pures, Bool.and_eq_true] at p
    cases h with
    | cons h1 h2 =>
      rw [pys]
      exact .cons (Rep.dp d _ p.1 h1) (RepAll.dp ds _ p.2 h2)
end
theorem op_eqD {x y : Dt} (px : TB.pure x = true) (py' : TB.pure y = true) (sx : SeqAt.shaped (py x) = true) (sy : SeqAt.shaped (py y) = true) : Op (rEqD K) x y m (.bl (PyData.eqv (py x) (py y))) := fun fr r s H vx vy S hx hy Q q =>
  ⟨py x, py y, hx.dp x vx px, hy.dp y vy py', sx, sy, q _ H S (TupLe.refl H) (.bl _)⟩
theorem op_inTD {x : Dt} {ds : List Dt} (px : TB.pure x = true) (pd : pures ds = true) (sx : SeqAt.shaped (py x) = true) (sy : SeqAt.shaped (.tuple (pys ds)) = true) : Op (rInT K) x (.tup ds) m (.bl ((pys ds).any fun z => PyData.eqv z (py x))) := fun fr r s H vx vy S hx hy Q q => by
  have h := hy.dp (K := K) (.tup ds) vy (by rw [TB.pure]; exact pd)
  rw [py] at h
  exact ⟨py x, pys ds, hx.dp x vx px, h, sx, sy, q _ H S (TupLe.refl H) (.bl _)⟩
theorem lst_dp {fr : Hp} {s : L2.St} {H : Hp} {a : Addr} {ds : List Dt} (S : Sto fr r m s H) (hm : m a = some (.lst ds)) (pd : pures ds = true) : Dp K H (.ref a) (.list (pys ds)) := by
  obtain ⟨xs, h1, h3⟩ := S.mst.mem a _ hm
  exact .lst (SqL.of h1) (h3.dp ds xs pd)
theorem op_niLD {a : Addr} {x : Dt} {ds : List Dt} (hm : m a = some (.lst ds)) (px : TB.pure x = true) (pd : pures ds = true) (sx : SeqAt.shaped (py x) = true) (sy : SeqAt.shaped (.list (pys ds)) = true) : Op (rNotInD K) x (.ref a) m (.bl (!(pys ds).any fun z => PyData.eqv z (py x))) := fun fr r s H vx vy S hx hy Q q => by
  cases hy
  exact ⟨py x, pys ds, hx.dp x vx px, lst_dp S hm pd, sx, sy, q _ H S (TupLe.refl H) (.bl _)⟩
theorem op_eqLL {a b : Addr} {ds es : List Dt} (ha : m a = some (.lst ds)) (hb : m b = some (.lst es)) (pd : pures ds = true) (pe : pures es = true) (sx : SeqAt.shaped (.list (pys ds)) = true) (sy : SeqAt.shaped (.list (pys es)) = true) :
    Op (rEqD K) (.ref a) (.ref b) m (.bl (PyData.eqv (.list (pys ds)) (.list (pys es)))) := fun fr r s H vx vy S hx hy Q q => by
  cases hx; cases hy
  exact ⟨_, _, lst_dp S ha pd, lst_dp S hb pe, sx, sy, q _ H S (TupLe.refl H) (.bl _)⟩
theorem op_neLL {a b : Addr} {ds es : List Dt} (ha : m a = some (.lst ds)) (hb : m b = some (.lst es)) (pd : pures ds = true) (pe : pures es = true) (sx : SeqAt.shaped (.list (pys ds)) = true) (sy : SeqAt.shaped (.list (pys es)) = true) :
    Op (rNeD K) (.ref a) (.ref b) m (.bl (!PyData.eqv (.list (pys ds)) (.list (pys es)))) := fun fr r s H vx vy S hx hy Q q => by
  cases hx; cases hy
  exact ⟨_, _, lst_dp S ha pd, lst_dp S hb pe, sx, sy, q _ H S (TupLe.refl H) (.bl _)⟩
theorem op_ltD' {x y : Dt} (px : TB.pure x = true) (py' : TB.pure y = true) (ha : PySem.W.alike (py x) (py y) = true) (hn : py x ≠ .none) (hz : min (py x).depth (py y).depth ≤ 60) : Op (rLtD K) x y m (.bl (PySem.W.dataLt (py x) (py y))) := fun fr r s H vx vy S hx hy Q q =>
  ⟨py x, py y, hx.dp x vx px, hy.dp y vy py', ha, hn, hz, q _ H S (TupLe.refl H) (.bl _)⟩

/-! ### tests -/
theorem et_test {b : Bool} (h : Ev te r m (.bl b)) : EvT (tTest te) r m b := fun fr s H S Q q => h fr s H S _ fun v H1 S1 t1 r1 => by
  cases r1
  exact ⟨b, rfl, q H1 S1 t1⟩
theorem et_B {b : Bool} (h : Ev te r m (.bl b)) : EvT (tB te) r m b := fun fr s H S Q q => h fr s H S _ fun v H1 S1 t1 r1 => by
  cases r1
  exact ⟨b, rfl, q H1 S1 t1⟩
theorem et_yes : EvT tYes r m true := fun fr s H S Q q => q H S (TupLe.refl H)
theorem et_and {a b : Bool} (h1 : EvT tt r m a) (h2 : a = true → EvT tu r m b) : EvT (tAnd tt tu) r m (a && b) := fun fr s H S Q q => h1 fr s H S _ fun H1 S1 t1 => by
  cases a with
  | true => exact h2 rfl fr s H1 S1 Q fun H2 S2 t2 => q H2 S2 (t1.trans t2)
  | false => exact q H1 S1 t1
theorem et_or {a b : Bool} (h1 : EvT tt r m a) (h2 : a = false → EvT tu r m b) : EvT (tOr tt tu) r m (a || b) := fun fr s H S Q q => h1 fr s H S _ fun H1 S1 t1 => by
  cases a with
  | true => exact q H1 S1 t1
  | false => exact h2 rfl fr s H1 S1 Q fun H2 S2 t2 => q H2 S2 (t1.trans t2)
theorem et_not {a : Bool} (h : EvT tt r m a) : EvT (tNot tt) r m (!a) := fun fr s H S Q q => h fr s H S _ fun H1 S1 t1 => q H1 S1 t1
theorem ev_andV {a b : Bool} (h1 : Ev ta r m (.bl a)) (h2 : a = true → Ev tb r m (.bl b)) : Ev (tAndV ta tb) r m (.bl (a && b)) := fun fr s H S Q q => h1 fr s H S _ fun v H1 S1 t1 r1 => by
  cases r1
  refine ⟨a, rfl, ?_⟩
  cases a with
  | true => exact h2 rfl fr s H1 S1 Q fun v H2 S2 t2 r2 => q v H2 S2 (t1.trans t2) r2
  | false => exact q _ H1 S1 t1 (.bl _)
theorem ev_orV {a b : Bool} (h1 : Ev ta r m (.bl a)) (h2 : a = false → Ev tb r m (.bl b)) : Ev (tOrV ta tb) r m (.bl (a || b)) := fun fr s H S Q q => h1 fr s H S _ fun v H1 S1 t1 r1 => by
  cases r1
  refine ⟨a, rfl, ?_⟩
  cases a with
  | true => exact q _ H1 S1 t1 (.bl _)
  | false => exact h2 rfl fr s H1 S1 Q fun v H2 S2 t2 r2 => q v H2 S2 (t1.trans t2) r2
theorem ev_notV {a : Bool} (h1 : Ev ta r m (.bl a)) : Ev (tNotV ta) r m (.bl (!a)) := fun fr s H S Q q => h1 fr s H S _ fun v H1 S1 t1 r1 => by
  cases r1
  exact ⟨a, rfl, q _ H1 S1 t1 (.bl _)⟩
theorem ev_if {b : Bool} (h : EvT tt r m b) (h1 : b = true → Ev ta r m d) (h2 : b = false → Ev tb r m d) : Ev (tIf tt ta tb) r m d := fun fr s H S Q q => h fr s H S _ fun H1 S1 t1 => by
  cases b with
  | true => exact h1 rfl fr s H1 S1 Q fun v H2 S2 t2 r2 => q v H2 S2 (t1.trans t2) r2
  | false => exact h2 rfl fr s H1 S1 Q fun v H2 S2 t2 r2 => q v H2 S2 (t1.trans t2) r2
/-- a < b < c -/
theorem ev_chain {r1 r2 : R2} {w : Dt} {p q' : Bool} (ha : Ev ta r m x) (hb : Ev tb r m y) (h1 : Op r1 x y m (.bl p)) (hc : p = true → Ev tc r m w) (h2 : p = true → Op r2 y w m (.bl q')) : Ev (tChain r1 r2 ta tb tc) r m (.bl (p && q')) := fun fr s H S Q q =>
  ha fr s H S _ fun vx H1 S1 t1 e1 => hb fr s H1 S1 _ fun vy H2 S2 t2 e2 => h1 fr r s H2 vx vy S2 (e1.go t2) e2 _ fun v H3 S3 t3 e3 => by
    cases e3
    refine ⟨p, rfl, ?_⟩
    cases p with
    | false => exact q _ H3 S3 ((t1.trans t2).trans t3) (.bl _)
    | true => exact hc rfl fr s H3 S3 _ fun vw H4 S4 t4 e4 => h2 rfl fr r s H4 vy vw S4 ((e2.go t3).go t4) e4 Q fun v H5 S5 t5 e5 => q v H5 S5 (((t1.trans t2).trans t3).trans (t4.trans t5)) e5
theorem ev_chain3 {r1 r2 r3 : R2} {td : TE} {w u : Dt} {p p2 k : Bool} (ha : Ev ta r m x) (hb : Ev tb r m y) (h1 : Op r1 x y m (.bl p)) (hc : p = true → Ev tc r m w) (h2 : p = true → Op r2 y w m (.bl p2)) (hd : p2 = true → Ev td r m u) (h3 : p2 = true → Op r3 w u m (.bl k)) :
    Ev (tChain3 r1 r2 r3 ta tb tc td) r m (.bl (p && (p2 && k))) := by
  intro fr s H S Q q
  refine ha fr s H S _ fun vx H1 S1 t1 e1 => hb fr s H1 S1 _ fun vy H2 S2 t2 e2 => h1 fr r s H2 vx vy S2 (e1.go t2) e2 _ fun v H3 S3 t3 e3 => ?_
  cases e3
  refine ⟨p, rfl, ?_⟩
  cases p with
  | false => exact q _ H3 S3 ((t1.trans t2).trans t3) (.bl _)
  | true =>
    refine hc rfl fr s H3 S3 _ fun vw H4 S4 t4 e4 => h2 rfl fr r s H4 vy vw S4 ((e2.go t3).go t4) e4 _ fun v H5 S5 t5 e5 => ?_
    cases e5
    refine ⟨p2, rfl, ?_⟩
    cases p2 with
    | false => exact q _ H5 S5 (((t1.trans t2).trans t3).trans (t4.trans t5)) (.bl _)
    | true => exact hd rfl fr s H5 S5 _ fun vu H6 S6 t6 e6 => h3 rfl fr r s H6 vw vu S6 ((e4.go t5).go t6) e6 Q fun v H7 S7 t7 e7 => q v H7 S7 ((((t1.trans t2).trans t3).trans (t4.trans t5)).trans (t6.trans t7)) e7

/-! ### arguments, displays, calls -/
theorem ea_nil : EvA tNil r m [] := fun fr s H S Q q => q _ H S (TupLe.refl H) .nil
theorem ea_cons {tr : TA} {ds : List Dt} (h : Ev te r m d) (hr : EvA tr r m ds) : EvA (tCons te tr) r m (d :: ds) := fun fr s H S Q q =>
  h fr s H S _ fun v H1 S1 t1 r1 => hr fr s H1 S1 _ fun vs H2 S2 t2 r2 => q _ H2 S2 (t1.trans t2) (.cons (r1.go t2) r2)
theorem sz_of {n : Nat} (h : n ≤ 100000) : n ≤ sizeLine := Nat.le_trans h (by decide)
theorem sz_lt {n : Nat} (h : n < 100000) : n < sizeLine := Nat.lt_of_lt_of_le h (by decide)
theorem ev_tup {tr : TA} {ds : List Dt} (h : EvA tr r m ds) (hz : ds.length ≤ 100000 := by (first | decide | (simp <;> omega))) : Ev (tTupF tr) r m (.tup ds) := fun fr s H S Q q =>
  h fr s H S _ fun vs H1 S1 t1 r1 => ⟨by rw [r1.length]; exact sz_of hz, frt S1 r1 fun v H2 S2 t2 r2 => q v H2 S2 (t1.trans t2) r2⟩
theorem en_lst {tr : TA} {ds : List Dt} (h : EvA tr r m ds) (hz : ds.length ≤ 100000 := by (first | decide | (simp <;> omega))) : EvN (tLst tr) r m (.lst ds) := fun fr s H S Q q =>
  h fr s H S _ fun vs H1 S1 t1 r1 => ⟨by rw [r1.length]; exact sz_of hz, fun p hp => q p _ (S1.mst.free hp) (S1.mst.freeF hp) (S1.new hp ⟨vs, upd_same, r1.go (TupLe.new hp)⟩) (t1.trans (TupLe.new hp))⟩
theorem en_dict0 : EvN tDNewK r m (.dic []) := fun fr s H S Q q => fun p hp => q p _ (S.mst.free hp) (S.mst.freeF hp) (S.new hp ⟨[], upd_same, .nil⟩) (TupLe.new hp)
theorem ev_cbA {rc : RC1} {tr : TA} {ds : List Dt} (h : EvA tr r m ds) (hc : Ca rc ds m z) : Ev (tCB rc tr) r m z := fun fr s H S Q q =>
  h fr s H S _ fun vs H1 S1 t1 r1 => hc fr r s H1 vs S1 r1 Q fun v H2 S2 t2 r2 => q v H2 S2 (t1.trans t2) r2
theorem en_cbA {rc : RC1} {tr : TA} {ds : List Dt} {o : MO} (h : EvA tr r m ds) (hc : CaN rc ds m o) : EvN (tCB rc tr) r m o := fun fr s H S Q q =>
  h fr s H S _ fun vs H1 S1 t1 r1 => hc fr r s H1 vs S1 r1 Q fun a H2 n f S2 t2 => q a H2 n f S2 (t1.trans t2)
/-- a built-in of a new list -/
theorem ev_cbN {rc : RC1} {o : MO} (h : EvN te r m o) (hc : ∀ a, m a = none → Ca rc [.ref a] (mu m a o) z) : Ev (tCB rc (tCons te tNil)) r m z := fun fr s H S Q q =>
  h fr s H S _ fun a H1 n f S1 t1 => hc a n fr r s H1 [.ref a] S1 (.cons (.ref a) .nil) Q fun v H2 S2 t2 r2 => q v H2 (S2.less (MLe.new n)) (t1.trans t2) r2
theorem en_cbN {rc : RC1} {o o' : MO} (h : EvN te r m o) (hc : ∀ a, m a = none → CaN rc [.ref a] (mu m a o) o') : EvN (tCB rc (tCons te tNil)) r m o' := fun fr s H S Q q =>
  h fr s H S _ fun a H1 n f S1 t1 => hc a n fr r s H1 [.ref a] S1 (.cons (.ref a) .nil) Q fun b H2 n2 f2 S2 t2 => by
    have ne : b ≠ a := fun e => by rw [e, mu_same] at n2; cases n2
    rw [mu_ne ne] at n2
    exact q b H2 n2 f2 (S2.less (MLe.both (MLe.new n))) (t1.trans t2)
end
end TB
set_option Elab.async false
set_option linter.all false
set_option autoImplicit false
set_option maxRecDepth 100000
set_option maxHeartbeats 4000000
/-! TB, expressions: slices, dicts, built-ins, methods. -/
namespace TB
open PySem L2

section
variable {K : PySem.W.Frag} {r : Ro} {m m' : Mp} {ta tb tc te td ty : TE} {tt tu : TT} {x y z d : Dt} {rr : R2}
/-! ### slices -/
def EvO (to : TO) (r : Ro) (m : Mp) (o : Option Int) : Prop := ∀ fr s H, Sto fr r m s H → ∀ Q : Option Int → Hp → Prop, (∀ H', Sto fr r m s H' → TupLe H H' → Q o H') → to s H Q
theorem eo_none : EvO tNoPart r m none := fun fr s H S Q q => q H S (TupLe.refl H)
theorem eo_some {i : Int} (h : Ev te r m (.int i)) : EvO (tPart te) r m (some i) := fun fr s H S Q q => h fr s H S _ fun v H1 S1 t1 r1 => by
  cases r1
  exact ⟨i, rfl, q H1 S1 t1⟩
theorem EvO.mono {to : TO} {o : Option Int} (h : EvO to r m o) (l : MLe m m') : EvO to r m' o := fun fr s H S Q q =>
  h _ s H (S.hide l) Q fun H' S' t => q H' (S.unhide l t S') t
def cut {α : Type} (xs : List α) (lo hi : Option Int) : List α := (xs.drop (HT.sIx xs.length 0 lo)).take (HT.sIx xs.length xs.length hi - HT.sIx xs.length 0 lo)
theorem cut_map {α β : Type} (f : α → β) (xs : List α) (lo hi : Option Int) : cut (xs.map f) lo hi = (cut xs lo hi).map f := by
  unfold cut
  rw [List.length_map, List.map_take, List.map_drop]
theorem cut_rep {H : Hp} {vs : List V} {ds : List Dt} (h : RepAll H vs ds) (lo hi : Option Int) : RepAll H (cutV vs lo hi) (cut ds lo hi) := by
  unfold cutV cut
  rw [h.length]
  exact (h.drop _).take _
theorem cut_all {α : Type} (xs : List α) (lo hi : Option Int) (h0 : HT.sIx xs.length 0 lo = 0) (h1 : HT.sIx xs.length xs.length hi = xs.length) : cut xs lo hi = xs := by
  unfold cut
  rw [h0, h1, List.drop_zero, Nat.sub_zero, List.take_length]
theorem ev_slT {tl th : TO} {ds : List Dt} {lo hi : Option Int} (h : Ev te r m (.tup ds)) (hl : EvO tl r m lo) (hh : EvO th r m hi) : Ev (tSl (rSlF K) te tl th) r m (.tup (cut ds lo hi)) := fun fr s H S Q q =>
  h fr s H S _ fun v H1 S1 t1 r1 => hl fr s H1 S1 _ fun H2 S2 t2 => hh fr s H2 S2 _ fun H3 S3 t3 => by
    have r3 := (r1.go t2).go t3
    obtain ⟨a, o, xs, rfl, h1, h2, h3⟩ := tup_of r3
    refine ⟨a, xs, rfl, sqt_of h1, fun ⟨e0, e1⟩ => ?_, fun _ => frt S3 (cut_rep h3 lo hi) fun v H4 S4 t4 r4 => q v H4 S4 (((t1.trans t2).trans t3).trans t4) r4⟩
    rw [h3.length] at e0 e1
    rw [cut_all ds lo hi e0 e1] at q
    exact q _ H3 S3 ((t1.trans t2).trans t3) r3
theorem en_slL {tl th : TO} {a : Addr} {ds : List Dt} {lo hi : Option Int} (h : Ev te r m (.ref a)) (hm : m a = some (.lst ds)) (hl : EvO tl r m lo) (hh : EvO th r m hi) : EvN (tSl (rSlL K) te tl th) r m (.lst (cut ds lo hi)) := fun fr s H S Q q =>
  h fr s H S _ fun v H1 S1 t1 r1 => hl fr s H1 S1 _ fun H2 S2 t2 => hh fr s H2 S2 _ fun H3 S3 t3 => by
    cases r1
    obtain ⟨xs, h1, h3⟩ := S3.mst.mem a _ hm
    exact ⟨a, xs, rfl, SqL.of h1, fun p hp => q p _ (S3.mst.free hp) (S3.mst.freeF hp) (S3.new hp ⟨_, upd_same, (cut_rep h3 lo hi).go (TupLe.new hp)⟩) (((t1.trans t2).trans t3).trans (TupLe.new hp))⟩
theorem ev_slS {tl th : TO} {z : Str} {lo hi : Option Int} (h : Ev te r m (.str z)) (hz : z.length ≤ sizeLine) (hl : EvO tl r m lo) (hh : EvO th r m hi) : Ev (tSl rSlS te tl th) r m (.str (cutS z lo hi)) := fun fr s H S Q q =>
  h fr s H S _ fun v H1 S1 t1 r1 => hl fr s H1 S1 _ fun H2 S2 t2 => hh fr s H2 S2 _ fun H3 S3 t3 => by
    cases r1
    exact ⟨z, rfl, hz, q _ H3 S3 ((t1.trans t2).trans t3) (.str _)⟩
/-- xs[::-1] -/
theorem en_revL {a : Addr} {ds : List Dt} (h : Ev te r m (.ref a)) (hm : m a = some (.lst ds)) : EvN (tRevL K te) r m (.lst ds.reverse) := fun fr s H S Q q =>
  h fr s H S _ fun v H1 S1 t1 r1 => by
    cases r1
    obtain ⟨xs, h1, h3⟩ := S1.mst.mem a _ hm
    exact ⟨a, xs, rfl, SqL.of h1, fun p hp => q p _ (S1.mst.free hp) (S1.mst.freeF hp) (S1.new hp ⟨_, upd_same, h3.reverse.go (TupLe.new hp)⟩) (t1.trans (TupLe.new hp))⟩

/-! ### dicts -/
def kD : Key → Dt
  | .inl i => .int i
  | .inr x => .str x
def valD {κ α : Type} [DecidableEq κ] (kds : List (κ × α)) (k : κ) : Option α := (kds.find? fun kv => decide (kv.1 = k)).map (·.2)
def putD {κ α : Type} [DecidableEq κ] (kds : List (κ × α)) (k : κ) (v : α) : List (κ × α) :=
  if (kds.any fun kv => decide (kv.1 = k)) = true then kds.map (fun kv => if kv.1 = k then (kv.1, v) else kv) else kds ++ [(k, v)]
theorem RepKV.val {H : Hp} {k : Key} : ∀ {kvs : List (Key × V)} {kds : List (Key × Dt)}, RepKV H kvs kds → (valD kds k = none ∧ valV kvs k = none) ∨ ∃ d v, valD kds k = some d ∧ valV kvs k = some v ∧ Rep H v d
  | _, _, .nil => .inl ⟨rfl, rfl⟩
  | _, _, .cons (k := k') r h => by
    unfold valD valV
    by_cases e : k' = k
    · rw [List.find?_cons_of_pos (by simpa using e), List.find?_cons_of_pos (by simpa using e)]
      exact .inr ⟨_, _, rfl, rfl, r⟩
    · rw [List.find?_cons_of_neg (by simpa using e), List.find?_cons_of_neg (by simpa using e)]
      exact h.val
theorem RepKV.any {H : Hp} {k : Key} : ∀ {kvs : List (Key × V)} {kds : List (Key × Dt)}, RepKV H kvs kds → (kvs.any fun kv => decide (kv.1 = k)) = (kds.any fun kv => decide (kv.1 = k))
  | _, _, .nil => rfl
  | _, _, .cons r h => by rw [List.any_cons, List.any_cons, h.any]
theorem RepKV.snoc {H : Hp} {k : Key} {v : V} {d : Dt} (r : Rep H v d) : ∀ {kvs : List (Key × V)} {kds : List (Key × Dt)}, RepKV H kvs kds → RepKV H (kvs ++ [(k, v)]) (kds ++ [(k, d)])
  | _, _, .nil => .cons r .nil
  | _, _, .cons r' h => .cons r' (RepKV.snoc r h)
theorem RepKV.store {H : Hp} {k : Key} {v : V} {d : Dt} (r : Rep H v d) : ∀ {kvs : List (Key × V)} {kds : List (Key × Dt)}, RepKV H kvs kds → RepKV H (kvs.map fun kv => if kv.1 = k then (kv.1, v) else kv) (kds.map fun kv => if kv.1 = k then (kv.1, d) else kv)
  | _, _, .nil => .nil
  | _, _, .cons (k := k') r' h => by
    rw [List.map_cons, List.map_cons]
    by_cases e : k' = k
    · rw [if_pos e, if_pos e]
      exact .cons r (RepKV.store r h)
    · rw [if_neg e, if_neg e]
      exact .cons r' (RepKV.store r h)
theorem RepKV.put {H : Hp} {k : Key} {v : V} {d : Dt} {kvs : List (Key × V)} {kds : List (Key × Dt)} (h : RepKV H kvs kds) (r : Rep H v d) : RepKV H (putK kvs k v) (putD kds k d) := by
  unfold putK putD
  rw [h.any]
  split
  · exact h.store r
  · exact h.snoc r
theorem rep_kD {H : Hp} {k : Key} {v : V} (h : Rep H v (kD k)) : v = kV k := by
  cases k <;> (cases h; rfl)
theorem kD_rep {H : Hp} (k : Key) : Rep H (kV k) (kD k) := by
  cases k
  · exact .int _
  · exact .str _
theorem ev_dget {a : Addr} {kds : List (Key × Dt)} {k : Key} (hd : Ev td r m (.ref a)) (hk : Ev ty r m (kD k)) (hm : m a = some (.dic kds)) (hv : valD kds k = some d) : Ev (tDGet td ty) r m d := fun fr s H S Q q =>
  hd fr s H S _ fun v H1 S1 t1 r1 => hk fr s H1 S1 _ fun w H2 S2 t2 r2 => by
    cases r1
    obtain rfl := rep_kD r2
    obtain ⟨kvs, h1, h3⟩ := S2.mst.mem a _ hm
    rcases h3.val (k := k) with ⟨e, _⟩ | ⟨d', v, e, e2, rv⟩
    · rw [hv] at e; cases e
    · rw [hv] at e; cases e
      exact ⟨a, v, rfl, by rw [← e2]; exact DGet.k h1, q v H2 S2 (t1.trans t2) rv⟩
theorem ev_dgetN {kds : List (Key × Dt)} {k : Key} (hd : EvN td r m (.dic kds)) (hk : Ev ty r m (kD k)) (hv : valD kds k = some d) : Ev (tDGet td ty) r m d := fun fr s H S Q q =>
  hd fr s H S _ fun a H1 n f S1 t1 => hk.new n fr s H1 S1 _ fun w H2 S2 t2 r2 => by
    obtain rfl := rep_kD r2
    obtain ⟨kvs, h1, h3⟩ := S2.mst.mem a _ mu_same
    rcases h3.val (k := k) with ⟨e, _⟩ | ⟨d', v, e, e2, rv⟩
    · rw [hv] at e; cases e
    · rw [hv] at e; cases e
      exact ⟨a, v, rfl, by rw [← e2]; exact DGet.k h1, q v H2 (S2.less (MLe.new n)) (t1.trans t2) rv⟩
theorem val_some {H : Hp} {k : Key} {kvs : List (Key × V)} {kds : List (Key × Dt)} (h : RepKV H kvs kds) : (valV kvs k).isSome = (valD kds k).isSome := by
  rcases h.val (k := k) with ⟨e, e2⟩ | ⟨d', v, e, e2, rv⟩ <;> rw [e, e2] <;> rfl
theorem ev_din {a : Addr} {kds : List (Key × Dt)} {k : Key} (hk : Ev ty r m (kD k)) (hd : Ev td r m (.ref a)) (hm : m a = some (.dic kds)) : Ev (tDIn ty td) r m (.bl (valD kds k).isSome) := fun fr s H S Q q =>
  hk fr s H S _ fun w H1 S1 t1 r1 => hd fr s H1 S1 _ fun v H2 S2 t2 r2 => by
    cases r2
    obtain rfl := rep_kD r1
    obtain ⟨kvs, h1, h3⟩ := S2.mst.mem a _ hm
    refine ⟨a, _, rfl, DGet.k h1, ?_⟩
    rw [val_some h3]
    exact q _ H2 S2 (t1.trans t2) (.bl _)
theorem ev_dni {a : Addr} {kds : List (Key × Dt)} {k : Key} (hk : Ev ty r m (kD k)) (hd : Ev td r m (.ref a)) (hm : m a = some (.dic kds)) : Ev (tDNotIn ty td) r m (.bl (!(valD kds k).isSome)) := fun fr s H S Q q =>
  hk fr s H S _ fun w H1 S1 t1 r1 => hd fr s H1 S1 _ fun v H2 S2 t2 r2 => by
    cases r2
    obtain rfl := rep_kD r1
    obtain ⟨kvs, h1, h3⟩ := S2.mst.mem a _ hm
    refine ⟨a, _, rfl, DGet.k h1, ?_⟩
    rw [val_some h3]
    exact q _ H2 S2 (t1.trans t2) (.bl _)
/-- {k: v} -/
theorem en_disp1 {tk tv : TE} {k : Key} (hk : Ev tk r m (kD k)) (hv : Ev tv r m d) : EvN (tDisp [(tk, tv)]) r m (.dic [(k, d)]) := fun fr s H S Q q => fun p hp => by
  have S0 : Sto fr r (mu m p (.dic [])) s (upd H p (.dK [])) := S.new hp ⟨[], upd_same, .nil⟩
  have n := S.mst.free hp
  have t0 : TupLe H (upd H p (.dK [])) := TupLe.new hp
  refine hk.new n fr s _ S0 _ fun w H1 S1 t1 r1 => hv.new n fr s H1 S1 _ fun v H2 S2 t2 r2 => ?_
  obtain rfl := rep_kD r1
  obtain ⟨kvs, h1, h3⟩ := S2.mst.mem p _ mu_same
  cases h3
  refine ⟨h1, [(k, v)], rfl, by show 1 ≤ 15; decide, ?_⟩
  have S3 := S2.mut (o' := .dic [(k, d)]) (u := .dK (mergeK [] [(k, v)])) mu_same ⟨_, upd_same, .cons (r2.go (TupLe.mut h1 fun _ _ z => nomatch z)) .nil⟩
  rw [mu_mu] at S3
  exact q p _ n (S.mst.freeF hp) S3 (((t0.trans t1).trans t2).trans (TupLe.mut h1 fun _ _ z => nomatch z))

/-! ### built-in functions -/
def rLenQ (K : PySem.W.Frag) : RC1 := fun xs H Q => ∃ p ys, xs = [.ref p] ∧ (SqL K H p ys ∨ SqT K H p ys) ∧ Q (.int ys.length) H
theorem cr_len {X : Cx} : CallR X (.builtin "len") (rLenQ X.K) := call_len_seq
theorem ca_lenT {ds : List Dt} : Ca (rLenQ K) [.tup ds] m (.int (ds.length : Nat)) := fun fr r s H vs S h Q q => by
  cases h with
  | cons h1 h2 =>
    cases h2
    obtain ⟨a, o, xs, rfl, g1, g2, g3⟩ := tup_of h1
    refine ⟨a, xs, rfl, .inr (sqt_of g1), ?_⟩
    rw [g3.length]
    exact q _ H S (TupLe.refl H) (.int _)
theorem ca_lenL {a : Addr} {ds : List Dt} (hm : m a = some (.lst ds)) : Ca (rLenQ K) [.ref a] m (.int (ds.length : Nat)) := fun fr r s H vs S h Q q => by
  cases h with
  | cons h1 h2 =>
    cases h2
    cases h1
    obtain ⟨xs, g1, g3⟩ := S.mst.mem a _ hm
    refine ⟨a, xs, rfl, .inl (SqL.of g1), ?_⟩
    rw [g3.length]
    exact q _ H S (TupLe.refl H) (.int _)
def rLenS : RC1 := fun xs H Q => ∃ z : Str, xs = [.str z] ∧ z.length ≤ sizeLine ∧ Q (.int z.length) H
theorem cr_lenS {X : Cx} : CallR X (.builtin "len") rLenS := fun pins s σ H xs us Q I r h => by
  obtain ⟨z, rfl, hz, q⟩ := h
  exact call_len pins s σ H _ us Q I r ⟨_, z.length, rfl, ⟨hz, rfl⟩, q⟩
theorem ca_lenS {z : Str} (hz : z.length ≤ sizeLine) : Ca rLenS [.str z] m (.int (z.length : Nat)) := fun fr r s H vs S h Q q => by
  cases h with
  | cons h1 h2 =>
    cases h2
    cases h1
    exact ⟨z, rfl, hz, q _ H S (TupLe.refl H) (.int _)⟩
theorem ca_all {a : Addr} {bs : List Bool} (hm : m a = some (.lst (bs.map .bl))) : Ca (rAll K) [.ref a] m (.bl (bs.all id)) := fun fr r s H vs S h Q q => by
  cases h with
  | cons h1 h2 =>
    cases h2
    cases h1
    obtain ⟨xs, g1, g3⟩ := S.mst.mem a _ hm
    obtain rfl := g3.bls
    exact ⟨a, bs, rfl, SqL.of g1, q _ H S (TupLe.refl H) (.bl _)⟩
theorem ca_any {a : Addr} {bs : List Bool} (hm : m a = some (.lst (bs.map .bl))) : Ca (rAny K) [.ref a] m (.bl (bs.any id)) := fun fr r s H vs S h Q q => by
  cases h with
  | cons h1 h2 =>
    cases h2
    cases h1
    obtain ⟨xs, g1, g3⟩ := S.mst.mem a _ hm
    obtain rfl := g3.bls
    exact ⟨a, bs, rfl, SqL.of g1, q _ H S (TupLe.refl H) (.bl _)⟩
def rMax2 : RC1 := fun xs H Q => ∃ i j, xs = [.int i, .int j] ∧ Q (.int (if j > i then j else i)) H
def rMin2 : RC1 := fun xs H Q => ∃ i j, xs = [.int i, .int j] ∧ Q (.int (if j < i then j else i)) H
theorem cr_max2 {X : Cx} (hc : X.calm = true) : CallR X (.builtin "max") rMax2 := call_max2 hc
theorem cr_min2 {X : Cx} (hc : X.calm = true) : CallR X (.builtin "min") rMin2 := call_min2 hc
theorem ca_max {i j : Int} : Ca rMax2 [.int i, .int j] m (.int (max i j)) := fun fr r s H vs S h Q q => by
  cases h with
  | cons h1 h2 =>
    cases h2 with
    | cons h2 h3 =>
      cases h3; cases h1; cases h2
      have e : (if j > i then j else i) = max i j := by omega
      refine ⟨i, j, rfl, ?_⟩
      rw [e]
      exact q _ H S (TupLe.refl H) (.int _)
theorem ca_min {i j : Int} : Ca rMin2 [.int i, .int j] m (.int (min i j)) := fun fr r s H vs S h Q q => by
  cases h with
  | cons h1 h2 =>
    cases h2 with
    | cons h2 h3 =>
      cases h3; cases h1; cases h2
      have e : (if j < i then j else i) = min i j := by omega
      refine ⟨i, j, rfl, ?_⟩
      rw [e]
      exact q _ H S (TupLe.refl H) (.int _)
def rListQ (K : PySem.W.Frag) : RC1 := fun xs H Q => ∃ p ys, xs = [.ref p] ∧ (SqL K H p ys ∨ SqT K H p ys) ∧ ∀ l, H l = none → Q (.ref l) (upd H l (.lst ys))
theorem cr_list {X : Cx} : CallR X (.type "list") (rListQ X.K) := call_list_of
theorem ca_listT {ds : List Dt} : CaN (rListQ K) [.tup ds] m (.lst ds) := fun fr r s H vs S h Q q => by
  cases h with
  | cons h1 h2 =>
    cases h2
    obtain ⟨a, o, xs, rfl, g1, g2, g3⟩ := tup_of h1
    exact ⟨a, xs, rfl, .inr (sqt_of g1), fun p hp => q p _ (S.mst.free hp) (S.mst.freeF hp) (S.new hp ⟨_, upd_same, g3.go (TupLe.new hp)⟩) (TupLe.new hp)⟩
theorem ca_tupL {a : Addr} {ds : List Dt} (hm : m a = some (.lst ds)) : Ca (rTupF K) [.ref a] m (.tup ds) := fun fr r s H vs S h Q q => by
  cases h with
  | cons h1 h2 =>
    cases h2
    cases h1
    obtain ⟨xs, g1, g3⟩ := S.mst.mem a _ hm
    exact ⟨a, xs, rfl, .inl ⟨SqL.of g1, frt S g3 q⟩⟩
theorem ev_tupRev {a : Addr} {ds : List Dt} (h : Ev te r m (.ref a)) (hm : m a = some (.lst ds)) : Ev (tTupRevF K te) r m (.tup ds.reverse) := fun fr s H S Q q =>
  h fr s H S _ fun v H1 S1 t1 r1 => by
    cases r1
    obtain ⟨xs, g1, g3⟩ := S1.mst.mem a _ hm
    exact ⟨a, xs, rfl, SqL.of g1, frt S1 g3.reverse fun v H2 S2 t2 r2 => q v H2 S2 (t1.trans t2) r2⟩
theorem en_listRg {tr : L2.St → Hp → (Int → Int → Hp → Prop) → Prop} {i j : Int} (h : ∀ fr s H, Sto fr r m s H → ∀ Q : Int → Int → Hp → Prop, (∀ H', Sto fr r m s H' → TupLe H H' → Q i j H') → tr s H Q) (ok : RgOk i j) :
    EvN (tLstRg tr) r m (.lst ((List.range (j - i).toNat).map fun k => .int (i + (k : Nat)))) := fun fr s H S Q q =>
  h fr s H S _ fun H1 S1 t1 => ⟨ok, fun p hp => q p _ (S1.mst.free hp) (S1.mst.freeF hp) (S1.new hp ⟨_, upd_same, RepAll.of_map _ fun k _ => .int _⟩) (t1.trans (TupLe.new hp))⟩
/-- isinstance(x, T), T a built-in class -/
def dTy : Dt → String
  | .non => "NoneType"
  | .bl _ => "bool"
  | .int _ => "int"
  | .str _ => "str"
  | .tup _ => "tuple"
  | .ref _ => "list"
def isRef : Dt → Bool
  | .ref _ => true
  | _ => false
theorem ev_isi {x : Dt} {T : String} {b : Bool} (h : Ev te r m x) (hx : isRef x = false) (hk : kitB (dTy x) T = some b) : Ev (tCB (rIsi K) (tCons te (tCons (tC (.ty T)) tNil))) r m (.bl b) := fun fr s H S Q q =>
  h fr s H S _ fun v H1 S1 t1 r1 => by
    refine ⟨v, .ty T, .type (dTy x), .type T, b, rfl, .ty T, ?_, kit_ty hk, q _ H1 S1 t1 (.bl _)⟩
    cases r1 with
    | non => exact .base .non
    | bl b => exact .base (.bl b)
    | int i => exact .base (.int i)
    | str x => exact .base (.str x)
    | ref a => cases hx
    | tup h1 _ _ => exact .fTuple h1

/-! ### methods -/
def rStrip : V → List V → Hp → VK → Prop := fun x xs H Q => ∃ a b, x = .str a ∧ xs = [.str b] ∧ a.length ≤ sizeLine ∧ Q (.str (Txt.stripChars a b)) H
theorem mt_strip' {X : Cx} : MtR X "str.strip" rStrip := mt_stripChars
theorem ev_strip {to : TE} {a b : Str} (ho : Ev to r m (.str a)) (h : Ev te r m (.str b)) (hz : a.length ≤ sizeLine) : Ev (tBM K "str" rStrip to (tCons te tNil)) r m (.str (Txt.stripChars a b)) := fun fr s H S Q q =>
  ho fr s H S _ fun v H1 S1 t1 r1 => by
    cases r1
    refine ⟨rfl, h fr s H1 S1 _ fun w H2 S2 t2 r2 => ?_⟩
    cases r2
    exact ⟨a, b, rfl, rfl, hz, q _ H2 S2 (t1.trans t2) (.str _)⟩
theorem ev_tidx {to : TE} {ys : List Str} {z : Str} {j : Nat} (ho : Ev to r m (.tup (ys.map .str))) (h : Ev te r m (.str z)) (hj : ys[j]? = some z) (hn : ∀ k, k < j → ys[k]? ≠ some z) : Ev (tTM (rTIdx K) to (tCons te tNil)) r m (.int (j : Nat)) := fun fr s H S Q q =>
  ho fr s H S _ fun v H1 S1 t1 r1 => by
    obtain ⟨a, o, xs, rfl, g1, g2, g3⟩ := tup_of r1
    refine ⟨⟨a, o, xs, rfl, g1, g2⟩, h fr s H1 S1 _ fun w H2 S2 t2 r2 => ?_⟩
    cases r2
    obtain rfl := g3.strs
    exact ⟨a, ys, z, j, rfl, rfl, sqt_of (t2 _ _ _ g1), hj, hn, q _ H2 S2 (t1.trans t2) (.int _)⟩
/-- xs.pop() -/
theorem ex_pop {to : TE} {a : Addr} {ds : List Dt} (ho : Ev to r m (.ref a)) (hm : m a = some (.lst (ds ++ [d]))) : EvX (tBM0 K "list" rPop to) r m (fun x m' => x = d ∧ m' = mu m a (.lst ds)) := fun fr s H S Q q =>
  ho fr s H S _ fun v H1 S1 t1 r1 => by
    cases r1
    obtain ⟨xs, g1, g3⟩ := S1.mst.mem a _ hm
    obtain ⟨v, e1, e2⟩ := g3.get (i := ds.length) (d := d) (by simp)
    have hl : xs.length - 1 = ds.length := by rw [g3.length]; simp
    refine ⟨.inl ⟨rfl, xs, SqL.of g1⟩, a, xs, v, rfl, rfl, g1, by rw [hl]; exact e1, ?_⟩
    have t : TupLe H1 (upd H1 a (.lst xs.dropLast)) := TupLe.mut g1 fun _ _ z => nomatch z
    have hd := g3.dropLast.go t
    rw [List.dropLast_concat] at hd
    exact q v d _ _ ⟨rfl, rfl⟩ (S1.mut hm ⟨_, upd_same, hd⟩) (t1.trans t) (e2.go t)

/-! ### calls of the program's own -/
/-- a promise told by data: an index, the arguments, what is asked, what comes -/
def spOf {ι : Type} (ds : ι → List Dt) (pre : ι → Mp → Prop) (post : ι → Mp → Dt → Mp → Prop) : Sp := fun vs H Q _ => ∃ (fr : Hp) (i : ι) (m : Mp), MSt fr m H ∧ RepAll H vs (ds i) ∧ pre i m ∧
  ∀ d m' v H', post i m d m' → MSt fr m' H' → TupLe H H' → Rep H' v d → Q v H'
theorem Sto.back {fr : Hp} {s : L2.St} {H H' : Hp} (S : Sto fr r m s H) (t : TupLe H H') (h : MSt fr m' H') : Sto fr r m' s H' := S.at t h
theorem ex_call {ι : Type} {ds : ι → List Dt} {pre : ι → Mp → Prop} {post : ι → Mp → Dt → Mp → Prop} {E : XK} {tr : TA} {es : List Dt} (i : ι) (h : EvA tr r m es) (he : es = ds i) (hp : pre i m) : EvX (tCall (spOf ds pre post) [] E tr) r m (post i m) := fun fr s H S Q q =>
  h fr s H S _ fun vs H1 S1 t1 r1 => by
    subst he
    show spOf ds pre post (vs ++ []) H1 Q E
    rw [List.append_nil]
    exact ⟨fr, i, m, S1.mst, r1, hp, fun d m' v H2 hq hm t2 r2 => q v d m' H2 hq (S1.back t2 hm) (t1.trans t2) r2⟩
/-- .. that gives a value and leaves all as it is -/
abbrev spV {ι : Type} (ds : ι → List Dt) (pre : ι → Prop) (f : ι → Dt) : Sp := spOf ds (fun i _ => pre i) (fun i m d m' => d = f i ∧ m' = m)
theorem ev_call {ι : Type} {ds : ι → List Dt} {pre : ι → Prop} {f : ι → Dt} {E : XK} {tr : TA} {es : List Dt} (i : ι) (h : EvA tr r m es) (he : es = ds i) (hp : pre i) : Ev (tCall (spV ds pre f) [] E tr) r m (f i) := fun fr s H S Q q =>
  ex_call i h he hp fr s H S Q fun v d m' H' hq S' t' r' => by
    obtain ⟨rfl, rfl⟩ := hq
    exact q v H' S' t' r'
/-- .. that gives a new list or dict -/
abbrev spN {ι : Type} (ds : ι → List Dt) (pre : ι → Mp → Prop) (f : ι → MO) : Sp := spOf ds pre (fun i m d m' => ∃ a, m a = none ∧ d = .ref a ∧ m' = mu m a (f i))
theorem en_call {ι : Type} {ds : ι → List Dt} {pre : ι → Mp → Prop} {f : ι → MO} {E : XK} {tr : TA} {es : List Dt} (i : ι) (h : EvA tr r m es) (he : es = ds i) (hp : pre i m) : EvN (tCall (spN ds pre f) [] E tr) r m (f i) := fun fr s H S Q q =>
  ex_call i h he hp fr s H S Q fun v d m' H' hq S' t' r' => by
    obtain ⟨a, n, rfl, rfl⟩ := hq
    cases r'
    exact q a H' n (S'.mst.sep a _ mu_same) S' t'
end
end TB
set_option Elab.async false
set_option linter.all false
set_option autoImplicit false
set_option maxRecDepth 100000
set_option maxHeartbeats 4000000
/-! TB, statements, loops, comprehensions, defs. -/
namespace TB
open PySem PySem.Spec PyProof.Rows L2

/-- a statement, by what holds behind it and what it returns -/
def St (ts : TS) (nx : Ro → Mp → Prop) (rt : Dt → Mp → Prop) (r : Ro) (m : Mp) : Prop := ∀ fr s H (D : Ends), Sto fr r m s H →
  (∀ r' m' s' H', nx r' m' → Sto fr r' m' s' H' → TupLe H H' → D.nx s' H') → (∀ d m' v H', rt d m' → MSt fr m' H' → TupLe H H' → Rep H' v d → D.rt v H') → ts D s H

/-- P at a part of what is told -/
def Wk (P : Mp → Prop) (m' : Mp) : Prop := ∃ m2, MLe m2 m' ∧ P m2
theorem Wk.of {P : Mp → Prop} {m : Mp} (h : P m) : Wk P m := ⟨m, MLe.refl m, h⟩
theorem Wk.mk {P : Mp → Prop} {m m' : Mp} (l : MLe m m') (h : P m) : Wk P m' := ⟨m, l, h⟩
theorem MLe.free {m m' : Mp} {a : Addr} (l : MLe m m') (h : m' a = none) : m a = none := by
  cases e : m a with
  | none => rfl
  | some o => rw [l a o e] at h; cases h

section
variable {K : PySem.W.Frag} {r : Ro} {m m' : Mp} {ta tb tc te td ty tv : TE} {tt tu : TT} {x y z d : Dt} {rr : R2} {nx : Ro → Mp → Prop} {rt : Dt → Mp → Prop} {t u : TS}
theorem St.less (h : St t nx rt r m) (l : MLe m m') : St t nx rt r m' := fun fr s H D S k1 k2 => h fr s H D (S.less l) k1 k2
theorem q_seq (h : St t (fun r' m' => St u nx rt r' m') rt r m) : St (tSeq t u) nx rt r m := fun fr s H D S k1 k2 =>
  h fr s H { D with nx := u D } S (fun r' m' s' H' hn S' t' => hn fr s' H' D S' (fun r2 m2 s2 H2 h2 S2 t2 => k1 r2 m2 s2 H2 h2 S2 (t'.trans t2)) fun d m2 v H2 h2 S2 t2 r2 => k2 d m2 v H2 h2 S2 (t'.trans t2) r2) k2
theorem s_next (k : nx r m) : St tNext nx rt r m := fun fr s H D S k1 k2 => k1 r m s H k S (TupLe.refl H)
theorem s_asg {i : Nat} (h : Ev te r m d) (k : nx (r.set i (some d)) m) : St (tAsg te (gName i)) nx rt r m := fun fr s H D S k1 k2 =>
  h fr s H S _ fun v H1 S1 t1 r1 => k1 _ m _ H1 k (S1.set i r1) t1
theorem s_asgN {i : Nat} {o : MO} (h : EvN te r m o) (k : ∀ a, m a = none → nx (r.set i (some (.ref a))) (mu m a o)) : St (tAsg te (gName i)) nx rt r m := fun fr s H D S k1 k2 =>
  h fr s H S _ fun a H1 n f S1 t1 => k1 _ _ _ H1 (k a n) (S1.set i (.ref a)) t1
theorem s_asgX {i : Nat} {P : Dt → Mp → Prop} (h : EvX te r m P) (k : ∀ d m', P d m' → nx (r.set i (some d)) m') : St (tAsg te (gName i)) nx rt r m := fun fr s H D S k1 k2 =>
  h fr s H S _ fun v d m' H1 hp S1 t1 r1 => k1 _ _ _ H1 (k d m' hp) (S1.set i r1) t1
theorem s_ret (h : Ev te r m d) (k : rt d m) : St (tRet te) nx rt r m := fun fr s H D S k1 k2 =>
  h fr s H S _ fun v H1 S1 t1 r1 => k2 d m v H1 k S1.mst t1 r1
theorem s_retN {o : MO} (h : EvN te r m o) (k : ∀ a, m a = none → rt (.ref a) (mu m a o)) : St (tRet te) nx rt r m := fun fr s H D S k1 k2 =>
  h fr s H S _ fun a H1 n f S1 t1 => k2 _ _ _ H1 (k a n) S1.mst t1 (.ref a)
theorem s_retX {P : Dt → Mp → Prop} (h : EvX te r m P) (k : ∀ d m', P d m' → rt d m') : St (tRet te) nx rt r m := fun fr s H D S k1 k2 =>
  h fr s H S _ fun v d m' H1 hp S1 t1 r1 => k2 d m' v H1 (k d m' hp) S1.mst t1 r1
theorem s_if {b : Bool} (h : EvT tt r m b) (h1 : b = true → St t nx rt r m) (h2 : b = false → St u nx rt r m) : St (tIfS tt t u) nx rt r m := fun fr s H D S k1 k2 =>
  h fr s H S _ fun H1 S1 t1 => by
    have g1 : ∀ r' m' s' H', nx r' m' → Sto fr r' m' s' H' → TupLe H1 H' → D.nx s' H' := fun r2 m2 s2 H2 h2 S2 t2 => k1 r2 m2 s2 H2 h2 S2 (t1.trans t2)
    have g2 : ∀ d m' v H', rt d m' → MSt fr m' H' → TupLe H1 H' → Rep H' v d → D.rt v H' := fun d m2 v H2 h2 S2 t2 r2 => k2 d m2 v H2 h2 S2 (t1.trans t2) r2
    cases b with
    | true => exact h1 rfl fr s H1 D S1 g1 g2
    | false => exact h2 rfl fr s H1 D S1 g1 g2
theorem q_asg {i : Nat} (h : Ev te r m d) (k : St u nx rt (r.set i (some d)) m) : St (tSeq (tAsg te (gName i)) u) nx rt r m := q_seq (s_asg h k)
theorem q_asgN {i : Nat} {o : MO} (h : EvN te r m o) (k : ∀ a, m a = none → St u nx rt (r.set i (some (.ref a))) (mu m a o)) : St (tSeq (tAsg te (gName i)) u) nx rt r m := q_seq (s_asgN h k)
theorem q_asgX {i : Nat} {P : Dt → Mp → Prop} (h : EvX te r m P) (k : ∀ d m', P d m' → St u nx rt (r.set i (some d)) m') : St (tSeq (tAsg te (gName i)) u) nx rt r m := q_seq (s_asgX h k)
/-- an if without else whose body goes on or returns -/
theorem q_when {b : Bool} (h : EvT tt r m b) (h1 : b = true → St t (fun r' m' => St u nx rt r' m') rt r m) (h2 : b = false → St u nx rt r m) : St (tSeq (tIfS tt t tNext) u) nx rt r m := q_seq (s_if h h1 fun e => s_next (h2 e))
theorem s_when {b : Bool} (h : EvT tt r m b) (h1 : b = true → St t nx rt r m) (h2 : b = false → nx r m) : St (tIfS tt t tNext) nx rt r m := s_if h h1 fun e => s_next (h2 e)
theorem s_drop (h : Ev te r m d) (k : nx r m) : St (tDrop te) nx rt r m := fun fr s H D S k1 k2 => h fr s H S _ fun v H1 S1 t1 r1 => k1 r m s H1 k S1 t1
theorem s_dropX {P : Dt → Mp → Prop} (h : EvX te r m P) (k : ∀ d m', P d m' → nx r m') : St (tDrop te) nx rt r m := fun fr s H D S k1 k2 => h fr s H S _ fun v d m' H1 hp S1 t1 r1 => k1 r m' s H1 (k d m' hp) S1 t1

/-! ### lists and dicts changed -/
theorem mut_lst {fr : Hp} {s : L2.St} {H : Hp} {a : Addr} {ds es : List Dt} {xs ys : List V} (S : Sto fr r m s H) (hm : m a = some (.lst ds)) (g : H a = some (.lst xs)) (h : RepAll H ys es) :
    Sto fr r (mu m a (.lst es)) s (upd H a (.lst ys)) ∧ TupLe H (upd H a (.lst ys)) := by
  have t : TupLe H (upd H a (.lst ys)) := TupLe.mut g fun _ _ z => nomatch z
  exact ⟨S.mut hm ⟨ys, upd_same, h.go t⟩, t⟩
theorem s_app {a : Addr} {ds : List Dt} (ho : Ev ta r m (.ref a)) (hm : m a = some (.lst ds)) (h : Ev te r m d) (hz : ds.length < 100000) (k : nx r (mu m a (.lst (ds ++ [d])))) : St (tDrop (tBM K "list" rAppend ta (tCons te tNil))) nx rt r m := fun fr s H D S k1 k2 =>
  ho fr s H S _ fun v H1 S1 t1 r1 => by
    cases r1
    obtain ⟨xs, g1, g3⟩ := S1.mst.mem a _ hm
    refine ⟨.inl ⟨rfl, xs, SqL.of g1⟩, h fr s H1 S1 _ fun w H2 S2 t2 r2 => ?_⟩
    obtain ⟨ys, g4, g5⟩ := S2.mst.mem a _ hm
    obtain ⟨S3, t3⟩ := mut_lst S2 hm g4 (g5.snoc r2)
    exact ⟨a, ys, w, rfl, rfl, g4, by rw [g5.length]; exact sz_lt hz, k1 r _ s _ k S3 ((t1.trans t2).trans t3)⟩
theorem s_appX {a : Addr} {P : Dt → Mp → Prop} (ho : Ev ta r m (.ref a)) (hm : ∃ ds, m a = some (.lst ds)) (h : EvX te r m P) (k : ∀ d m', P d m' → ∃ ds, m' a = some (.lst ds) ∧ ds.length < 100000 ∧ nx r (mu m' a (.lst (ds ++ [d])))) : St (tDrop (tBM K "list" rAppend ta (tCons te tNil))) nx rt r m := fun fr s H D S k1 k2 =>
  ho fr s H S _ fun v H1 S1 t1 r1 => by
    cases r1
    obtain ⟨ds, hm⟩ := hm
    obtain ⟨xs, g1, g3⟩ := S1.mst.mem a _ hm
    refine ⟨.inl ⟨rfl, xs, SqL.of g1⟩, h fr s H1 S1 _ fun w d m' H2 hp S2 t2 r2 => ?_⟩
    obtain ⟨es, hm2, hz, kk⟩ := k d m' hp
    obtain ⟨ys, g4, g5⟩ := S2.mst.mem a _ hm2
    obtain ⟨S3, t3⟩ := mut_lst S2 hm2 g4 (g5.snoc r2)
    exact ⟨a, ys, w, rfl, rfl, g4, by rw [g5.length]; exact sz_lt hz, k1 r _ s _ kk S3 ((t1.trans t2).trans t3)⟩
theorem s_extN {a : Addr} {ds es : List Dt} (ho : Ev ta r m (.ref a)) (hm : m a = some (.lst ds)) (h : EvN te r m (.lst es)) (hz : ds.length + es.length ≤ 100000) (k : nx r (mu m a (.lst (ds ++ es)))) : St (tDrop (tBM K "list" rExtend ta (tCons te tNil))) nx rt r m := fun fr s H D S k1 k2 =>
  ho fr s H S _ fun v H1 S1 t1 r1 => by
    cases r1
    obtain ⟨xs, g1, g3⟩ := S1.mst.mem a _ hm
    refine ⟨.inl ⟨rfl, xs, SqL.of g1⟩, h fr s H1 S1 _ fun b H2 n f S2 t2 => ?_⟩
    have ne : a ≠ b := fun e => by rw [← e, hm] at n; cases n
    have hm2 : mu m b (.lst es) a = some (.lst ds) := by rw [mu_ne ne]; exact hm
    obtain ⟨ys, g4, g5⟩ := S2.mst.mem a _ hm2
    obtain ⟨zs, g6, g7⟩ := S2.mst.mem b _ mu_same
    obtain ⟨S3, t3⟩ := mut_lst S2 hm2 g4 (g5.append g7)
    refine ⟨a, b, ys, zs, rfl, rfl, g4, g6, by rw [g5.length, g7.length]; exact sz_of hz, k1 r _ s _ k (S3.less (MLe.both (MLe.new n))) ((t1.trans t2).trans t3)⟩
/-- extend with a tuple's items: not served by HandS; a list alone -/
theorem s_rev {a : Addr} {ds : List Dt} (ho : Ev ta r m (.ref a)) (hm : m a = some (.lst ds)) (k : nx r (mu m a (.lst ds.reverse))) : St (tDrop (tBM0 K "list" rReverse ta)) nx rt r m := fun fr s H D S k1 k2 =>
  ho fr s H S _ fun v H1 S1 t1 r1 => by
    cases r1
    obtain ⟨xs, g1, g3⟩ := S1.mst.mem a _ hm
    obtain ⟨S3, t3⟩ := mut_lst S1 hm g1 g3.reverse
    exact ⟨.inl ⟨rfl, xs, SqL.of g1⟩, a, xs, rfl, rfl, g1, k1 r _ s _ k S3 (t1.trans t3)⟩
theorem s_pop {a : Addr} {ds : List Dt} (ho : Ev ta r m (.ref a)) (hm : m a = some (.lst (ds ++ [d]))) (k : nx r (mu m a (.lst ds))) : St (tDrop (tBM0 K "list" rPop ta)) nx rt r m :=
  s_dropX (ex_pop ho hm) fun _ _ h => by
    obtain ⟨_, rfl⟩ := h
    exact k
theorem ixN_nt {n j : Nat} (hj : j < n) : ixN n (j : Int) = some j := by
  unfold ixN
  rw [if_pos (by omega), if_pos (by omega)]
  simp
/-- xs[i] = e -/
theorem s_setL {a : Addr} {ds : List Dt} {j : Nat} (hv : Ev te r m d) (ho : Ev ta r m (.ref a)) (hi : Ev tb r m (.int (j : Nat))) (hm : m a = some (.lst ds)) (hj : j < ds.length) (k : nx r (mu m a (.lst (ds.set j d)))) : St (tAsg te (gSub ta tb rSetL)) nx rt r m := fun fr s H D S k1 k2 =>
  hv fr s H S _ fun v H1 S1 t1 r1 => ho fr s H1 S1 _ fun w H2 S2 t2 r2 => hi fr s H2 S2 _ fun u H3 S3 t3 r3 => by
    cases r2
    cases r3
    obtain ⟨xs, g1, g3⟩ := S3.mst.mem a _ hm
    obtain ⟨S4, t4⟩ := mut_lst S3 hm g1 (g3.set ((r1.go t2).go t3) j)
    exact ⟨a, xs, _, j, rfl, rfl, g1, ixN_nt (by rw [g3.length]; exact hj), k1 r _ s _ k S4 (((t1.trans t2).trans t3).trans t4)⟩
/-- d[k] = v -/
theorem s_dput {a : Addr} {kds : List (Key × Dt)} {k : Key} (hv : Ev tv r m d) (hd : Ev td r m (.ref a)) (hk : Ev ty r m (kD k)) (hm : m a = some (.dic kds)) (hz : kds.length < 100000) (q : nx r (mu m a (.dic (putD kds k d)))) : St (sDPut td ty tv) nx rt r m := fun fr s H D S k1 k2 =>
  hv fr s H S _ fun v H1 S1 t1 r1 => hd fr s H1 S1 _ fun w H2 S2 t2 r2 => hk fr s H2 S2 _ fun u H3 S3 t3 r3 => by
    cases r2
    obtain rfl := rep_kD r3
    obtain ⟨kvs, g1, g3⟩ := S3.mst.mem a _ hm
    have t : TupLe H3 (upd H3 a (.dK (putK kvs k v))) := TupLe.mut g1 fun _ _ z => nomatch z
    exact ⟨a, _, rfl, DPut.k g1 (by rw [g3.length]; exact sz_lt hz), k1 r _ s _ q (S3.mut hm ⟨_, upd_same, (g3.put ((r1.go t2).go t3)).go t⟩) (((t1.trans t2).trans t3).trans t)⟩

/-! ### targets -/
/-- a target of names: what it stores, into which slots -/
def RepK (wk : Bool) (H : Hp) (v : V) (d : Dt) : Prop := match wk with
  | false => Rep H v d
  | true => ∃ a xs ds, v = .ref a ∧ H a = some (.tup xs) ∧ RepAll H xs ds ∧ d = .tup ds
def Ga (wk : Bool) (g : TG) (js : List Nat) (d : Dt) (r r' : Ro) : Prop := ∀ fr m s H v, Sto fr r m s H → RepK wk H v d → ∀ Q : L2.St → Hp → Prop,
  (∀ s', Sto fr r' m s' H → (∀ vs : List Nat, (∀ j ∈ js, j ∈ vs) → wipe s' vs = wipe s vs) → Q s' H) → g v s H Q
theorem wipe_set {s : L2.St} {j : Nat} {x : Option V} : ∀ {vs : List Nat}, j ∈ vs → wipe (s.set j x) vs = wipe s vs
  | [], h => nomatch h
  | v :: vs, h => by
    by_cases e : j = v
    · subst e
      show (wipe (s.set j x) vs).set j none = (wipe s vs).set j none
      have key : ∀ (us : List Nat), (wipe (s.set j x) us).set j none = (wipe s us).set j none := by
        intro us
        induction us with
        | nil => show (s.set j x).set j none = s.set j none; rw [List.set_set]
        | cons u us ih =>
          show ((wipe (s.set j x) us).set u none).set j none = ((wipe s us).set u none).set j none
          by_cases h : u = j
          · subst h; rw [List.set_set, List.set_set]; exact ih
          · rw [List.set_comm _ _ h, List.set_comm _ _ h, ih]
      exact key vs
    · have h' : j ∈ vs := by
        rcases List.mem_cons.mp h with z | z
        · exact absurd z e
        · exact z
      show (wipe (s.set j x) vs).set v none = (wipe s vs).set v none
      rw [wipe_set h']
theorem ga_name {i : Nat} : Ga false (gName i) [i] d r (r.set i (some d)) := fun fr m s H v S rv Q q => q _ (S.set i rv) fun vs h => wipe_set (h i (by simp))
def Gas (g : TGs) (js : List Nat) (ds : List Dt) (r r' : Ro) : Prop := ∀ fr m s H vs, Sto fr r m s H → RepAll H vs ds → ∀ Q : L2.St → Hp → Prop,
  (∀ s', Sto fr r' m s' H → (∀ vs : List Nat, (∀ j ∈ js, j ∈ vs) → wipe s' vs = wipe s vs) → Q s' H) → g vs s H Q
theorem gas_nil : Gas gNil [] [] r r := fun fr m s H vs S h Q q => by
  cases h
  exact ⟨rfl, q s S fun _ _ => rfl⟩
theorem gas_cons {g : TG} {gs : TGs} {js ks : List Nat} {ds : List Dt} {r1 r2 : Ro} (h1 : Ga false g js d r r1) (h2 : Gas gs ks ds r1 r2) : Gas (gCons g gs) (js ++ ks) (d :: ds) r r2 := fun fr m s H vs S h Q q => by
  cases h with
  | cons h t => exact ⟨_, _, rfl, h1 fr m s H _ S h _ fun s1 S1 w1 => h2 fr m s1 H _ S1 t _ fun s2 S2 w2 => q s2 S2 fun vs hv => by
      rw [w2 vs fun j hj => hv j (List.mem_append_right _ hj), w1 vs fun j hj => hv j (List.mem_append_left _ hj)]⟩
theorem ga_tup {wk : Bool} {gs : TGs} {js : List Nat} {ds : List Dt} {r' : Ro} {n : Nat} (hn : ds.length = n) (h : Gas gs js ds r r') : Ga wk (gTup K n gs) js (.tup ds) r r' := fun fr m s H v S rv Q q => by
  cases wk with
  | false =>
    obtain ⟨a, o, xs, rfl, g1, g2, g3⟩ := tup_of rv
    exact ⟨a, xs, rfl, sqt_of g1, by rw [g3.length]; exact hn, h fr m s H xs S g3 Q q⟩
  | true =>
    obtain ⟨a, xs, es, rfl, g1, g3, e⟩ := rv
    cases e
    exact ⟨a, xs, rfl, SqT.of g1, by rw [g3.length]; exact hn, h fr m s H xs S g3 Q q⟩
theorem s_asgG {g : TG} {js : List Nat} {r' : Ro} (h : Ev te r m d) (hg : Ga false g js d r r') (k : nx r' m) : St (tAsg te g) nx rt r m := fun fr s H D S k1 k2 =>
  h fr s H S _ fun v H1 S1 t1 r1 => hg fr m s H1 v S1 r1 _ fun s' S' _ => k1 _ m _ H1 k S' t1
theorem s_asgGX {g : TG} {P : Dt → Mp → Prop} (h : EvX te r m P) (k : ∀ d m', P d m' → ∃ js r', Ga false g js d r r' ∧ nx r' m') : St (tAsg te g) nx rt r m := fun fr s H D S k1 k2 =>
  h fr s H S _ fun v d m' H1 hp S1 t1 r1 => by
    obtain ⟨js, r', hg, kk⟩ := k d m' hp
    exact hg fr m' s H1 v S1 r1 _ fun s' S' _ => k1 _ m' _ H1 kk S' t1
theorem q_asgG {g : TG} {js : List Nat} {r' : Ro} (h : Ev te r m d) (hg : Ga false g js d r r') (k : St u nx rt r' m) : St (tSeq (tAsg te g) u) nx rt r m := q_seq (s_asgG h hg k)
/-- a, b = e1, e2 with local names -/
theorem s_par {i j : Nat} {tr : TA} (h : EvA tr r m [x, y]) (k : nx ((r.set i (some x)).set j (some y)) m) : St (tPar i j tr) nx rt r m := fun fr s H D S k1 k2 =>
  h fr s H S _ fun vs H1 S1 t1 r1 => by
    cases r1 with
    | cons h1 h2 =>
      cases h2 with
      | cons h2 h3 =>
        cases h3
        exact ⟨_, _, rfl, k1 _ m _ H1 k ((S1.set i h1).set j h2) t1⟩
theorem q_par {i j : Nat} {tr : TA} (h : EvA tr r m [x, y]) (k : St u nx rt ((r.set i (some x)).set j (some y)) m) : St (tSeq (tPar i j tr) u) nx rt r m := q_seq (s_par h k)
def EvAX' (tr : TA) (r : Ro) (m : Mp) (P : List Dt → Mp → Prop) : Prop := EvAX tr r m P
theorem s_parX {i j : Nat} {tr : TA} {P : List Dt → Mp → Prop} (h : EvAX tr r m P) (k : ∀ ds m', P ds m' → ∃ x y, ds = [x, y] ∧ nx ((r.set i (some x)).set j (some y)) m') : St (tPar i j tr) nx rt r m := fun fr s H D S k1 k2 =>
  h fr s H S _ fun vs ds m' H1 hp S1 t1 r1 => by
    obtain ⟨x, y, rfl, kk⟩ := k ds m' hp
    cases r1 with
    | cons h1 h2 =>
      cases h2 with
      | cons h2 h3 =>
        cases h3
        exact ⟨_, _, rfl, k1 _ m' _ H1 kk ((S1.set i h1).set j h2) t1⟩

/-! ### what is walked -/
/-- the items ds come, wherever what src says still stands -/
structure Yields (wk : Bool) (J : It) (ds : List Dt) (src : Mp → Prop) (fr : Hp) (H0 : Hp) : Prop where
  go : ∀ i m r s H, i < ds.length → Sto fr r m s H → src m → TupLe H0 H → J.go i H
  yld : ∀ i m r s H x H', i < ds.length → Sto fr r m s H → src m → TupLe H0 H → J.yld i H x H' → ∃ d, ds[i]? = some d ∧ Sto fr r m s H' ∧ TupLe H H' ∧ RepK wk H' x d
  stop : ∀ m r s H, Sto fr r m s H → src m → TupLe H0 H → J.stop ds.length H
theorem Yields.from {wk : Bool} {J : It} {ds : List Dt} {src : Mp → Prop} {fr H0 H1 : Hp} (h : Yields wk J ds src fr H0) (t : TupLe H0 H1) : Yields wk J ds src fr H1 :=
  ⟨fun i m r s H hi S hs t' => h.go i m r s H hi S hs (t.trans t'), fun i m r s H x H' hi S hs t' => h.yld i m r s H x H' hi S hs (t.trans t'), fun m r s H S hs t' => h.stop m r s H S hs (t.trans t')⟩
/-- a walk: its items; what of the told lists it leans on -/
def EvI (wk : Bool) (wi : TI) (r : Ro) (m : Mp) (ds : List Dt) (src : Mp → Prop) : Prop := ∀ fr s H, Sto fr r m s H → ∀ R : It → Hp → Prop,
  (∀ J fr' H', (∀ a o, fr a = some o → fr' a = some o) → Sto fr' r m s H' → TupLe H H' → Yields wk J ds src fr' H' → R J H') → wi s H R
theorem s_for {wk : Bool} {wi : TI} {g : TG} {tb : TS} {ds : List Dt} {src : Mp → Prop} (hi : EvI wk wi r m ds src) (W : Nat → Ro → Mp → Prop) (h0 : W 0 r m) (hsrc : ∀ i r' m', W i r' m' → src m')
    (hs : ∀ i d r' m', ds[i]? = some d → W i r' m' → ∃ js r2, Ga wk g js d r' r2 ∧ St tb (fun r3 => Wk (W (i + 1) r3)) rt r2 m') (hd : ∀ r' m', W ds.length r' m' → nx r' m') : St (tFor wi g tb) nx rt r m := by
  intro fr s H D S k1 k2
  refine hi fr s H S _ fun J fr' H1 lf S1 t1 Y => ?_
  refine ⟨fun i n s' H' => n = ds.length - i ∧ i ≤ ds.length ∧ ∃ r' m', W i r' m' ∧ Sto fr' r' m' s' H' ∧ TupLe H1 H', ⟨ds.length, by simp, Nat.zero_le _, r, m, h0, S1, TupLe.refl _⟩, ?_⟩
  rintro i n s' H' ⟨rfl, hle, r', m', hw, S', t'⟩
  by_cases hlt : i < ds.length
  · refine .inr ⟨Y.go i m' r' s' H' hlt S' (hsrc i r' m' hw) t', fun s2 H2 => ∃ r2 m2, W (i + 1) r2 m2 ∧ Sto fr' r2 m2 s2 H2 ∧ TupLe H1 H2, fun s2 H2 ⟨r2, m2, w2, S2, t2⟩ => ⟨ds.length - (i + 1), by omega, rfl, hlt, r2, m2, w2, S2, t2⟩, fun x H2 y => ?_⟩
    obtain ⟨d, hd2, S2, t2, rk⟩ := Y.yld i m' r' s' H' x H2 hlt S' (hsrc i r' m' hw) t' y
    obtain ⟨js, r2, hg, hst⟩ := hs i d r' m' hd2 hw
    refine hg fr' m' s' H2 x S2 rk _ fun s3 S3 _ => ?_
    refine hst fr' s3 H2 _ S3 (fun r4 m4 s4 H4 w4 S4 t4 => let ⟨m5, l5, w5⟩ := w4; ⟨r4, m5, w5, S4.less l5, (t'.trans t2).trans t4⟩) fun d4 m4 v4 H4 hr S4 t4 r4 => ?_
    exact k2 d4 m4 v4 H4 hr (S4.lessF lf) (((t1.trans t').trans t2).trans t4) r4
  · have e : i = ds.length := by omega
    subst e
    exact .inl ⟨Y.stop m' r' s' H' S' (hsrc _ r' m' hw) t', k1 r' m' s' H' (hd r' m' hw) (S'.lessF lf) (t1.trans t')⟩
theorem q_for {wk : Bool} {wi : TI} {g : TG} {tb : TS} {ds : List Dt} {src : Mp → Prop} (hi : EvI wk wi r m ds src) (W : Nat → Ro → Mp → Prop) (h0 : W 0 r m) (hsrc : ∀ i r' m', W i r' m' → src m')
    (hs : ∀ i d r' m', ds[i]? = some d → W i r' m' → ∃ js r2, Ga wk g js d r' r2 ∧ St tb (fun r3 => Wk (W (i + 1) r3)) rt r2 m') (hd : ∀ r' m', W ds.length r' m' → St u nx rt r' m') : St (tSeq (tFor wi g tb) u) nx rt r m := q_seq (s_for hi W h0 hsrc hs hd)

theorem wipe_get {s : L2.St} {i : Nat} : ∀ {vs : List Nat}, (wipe s vs)[i]? = if i ∈ vs then s[i]?.map (fun _ => none) else s[i]?
  | [] => by simp [wipe]
  | v :: vs => by
    show ((wipe s vs).set v none)[i]? = _
    have ih := wipe_get (s := s) (i := i) (vs := vs)
    by_cases e : v = i
    · subst e
      rw [List.getElem?_set_self', ih]
      by_cases h : v ∈ vs <;> simp [h] <;> rfl
    · rw [List.getElem?_set_ne e, ih]
      have e' : ¬ i = v := fun z => e z.symm
      simp [e']
theorem wipe_wipe {s : L2.St} {vs : List Nat} : wipe (wipe s vs) vs = wipe s vs := by
  apply List.ext_getElem?
  intro i
  rw [wipe_get, wipe_get]
  by_cases h : i ∈ vs
  · simp only [h, if_true]
    cases s[i]? <;> rfl
  · simp only [h, if_false]
/-- one turn of a comprehension -/
theorem lc_turn {wk : Bool} {g : TG} {vs : List Nat} {fr : Hp} {s : L2.St} {H : Hp} {L : Addr} {ds : List Dt} {x : V} {e : Dt} {js : List Nat} {r2 : Ro} {b : Bool} {N : Hp → Prop}
    (S : Sto fr r (mu m L (.lst ds)) s H) (nL : m L = none) (rk : RepK wk H x e) (hj : ∀ j ∈ js, j ∈ vs) (hg : Ga wk g js e (wip r vs) r2) (ht : EvT tt r2 m b) (he : b = true → Ev te r2 m d) (hz : ds.length < 100000)
    (hN : ∀ H', Sto fr r (mu m L (.lst (if b = true then ds ++ [d] else ds))) s H' → TupLe H H' → N H') :
    g x (wipe s vs) H fun s2 H2 => wipe s2 vs = wipe s vs ∧ tt s2 H2 fun b H3 => if b = true then te s2 H3 fun y H4 => ∃ acc, H4 L = some (.lst acc) ∧ acc.length < sizeLine ∧ N (upd H4 L (.lst (acc ++ [y]))) else N H3 := by
  refine hg fr _ _ H x (S.wip vs) rk _ fun s3 S3 w3 => ⟨by rw [w3 vs hj]; exact wipe_wipe, ?_⟩
  refine ht.mono (MLe.new nL) fr s3 H S3 _ fun H3 S4 t4 => ?_
  cases b with
  | false => exact hN H3 (S.at t4 S4.mst) t4
  | true =>
    refine (he rfl).mono (MLe.new nL) fr s3 H3 S4 _ fun y H4 S5 t5 r5 => ?_
    obtain ⟨acc, g1, g3⟩ := S5.mst.mem L _ mu_same
    refine ⟨acc, g1, by rw [g3.length]; exact sz_lt hz, ?_⟩
    obtain ⟨S6, t6⟩ := mut_lst S5 mu_same g1 (g3.snoc r5)
    rw [mu_mu] at S6
    exact hN _ (S.at ((t4.trans t5).trans t6) S6.mst) ((t4.trans t5).trans t6)
/-- a list comprehension, a pure one: items x of xs told by enc, kept where p, f of each -/
theorem en_lc {wk : Bool} {wi : TI} {g : TG} {vs : List Nat} {α : Type} {xs : List α} {enc : α → Dt} {src : Mp → Prop} (hi : EvI wk wi r m (xs.map enc) src) (hsrc : ∀ m', MLe m m' → src m') (p : α → Bool) (f : α → Dt)
    (hg : ∀ x ∈ xs, ∃ js r2, (∀ j ∈ js, j ∈ vs) ∧ Ga wk g js (enc x) (wip r vs) r2 ∧ EvT tt r2 m (p x) ∧ (p x = true → Ev te r2 m (f x))) (hz : xs.length ≤ 50000) :
    EvN (tLc wi g tt te vs) r m (.lst ((xs.filter p).map f)) := by
  intro fr s H S Q q
  refine hi fr s H S _ fun J fr' H1 lf S1 t1 Y => fun L hL => ?_
  have nL := S1.mst.free hL
  have fL : fr L = none := by
    cases e : fr L with
    | none => rfl
    | some o => have := lf L o e; rw [S1.mst.freeF hL] at this; cases this
  have S2 : Sto fr' r (mu m L (.lst [])) s (upd H1 L (.lst [])) := S1.new hL ⟨[], upd_same, .nil⟩
  have tL : TupLe H1 (upd H1 L (.lst [])) := TupLe.new hL
  refine ⟨fun i n H' => n = xs.length - i ∧ i ≤ xs.length ∧ Sto fr' r (mu m L (.lst (((xs.take i).filter p).map f))) s H' ∧ TupLe H1 H', ⟨xs.length, by simp, Nat.zero_le _, S2, tL⟩, ?_⟩
  rintro i n H' ⟨rfl, hle, S', t'⟩
  have hs2 := hsrc _ (MLe.new (o := .lst (((xs.take i).filter p).map f)) nL)
  by_cases hlt : i < xs.length
  · have hlt' : i < (xs.map enc).length := by rw [List.length_map]; exact hlt
    refine .inr ⟨Y.go i _ r s H' hlt' S' hs2 t', fun H2 => Sto fr' r (mu m L (.lst (((xs.take (i + 1)).filter p).map f))) s H2 ∧ TupLe H1 H2, fun H2 ⟨w1, w2⟩ => ⟨xs.length - (i + 1), by omega, rfl, hlt, w1, w2⟩, fun x H2 y => ?_⟩
    obtain ⟨e, he, S3, t3, rk⟩ := Y.yld i _ r s H' x H2 hlt' S' hs2 t' y
    have he' : e = enc xs[i] := by
      rw [List.getElem?_map, List.getElem?_eq_getElem hlt] at he
      exact (Option.some.inj he).symm
    subst he'
    obtain ⟨js, r2, hj, hga, ht, hte⟩ := hg xs[i] (List.getElem_mem hlt)
    have hlen : (((xs.take i).filter p).map f).length ≤ i := by
      rw [List.length_map]
      refine Nat.le_trans (List.length_filter_le _ _) ?_
      rw [List.length_take]
      exact Nat.min_le_left _ _
    refine lc_turn S3 nL rk hj hga ht hte (by omega) fun H4 S4 t4 => ⟨?_, (t'.trans t3).trans t4⟩
    have ex : ((xs.take (i + 1)).filter p).map f = if p xs[i] = true then ((xs.take i).filter p).map f ++ [f xs[i]] else ((xs.take i).filter p).map f := by
      rw [List.take_add_one, List.getElem?_eq_getElem hlt, List.filter_append, List.map_append]
      cases hp : p xs[i] <;> simp [hp]
    rw [ex]
    exact S4
  · have e : i = xs.length := by omega
    subst e
    have hst := Y.stop _ r s H' S' hs2 t'
    rw [List.length_map] at hst
    refine .inl ⟨hst, ?_⟩
    rw [List.take_length] at S'
    exact q L H' nL fL (S'.lessF lf) (t1.trans t')

/-! ### the walks -/
theorem yields_tup {a : Addr} {o : Obj} {xs : List V} {ds : List Dt} {fr : Hp} {H1 : Hp} (g1 : H1 a = some (.frz o (.tup xs))) (g3 : RepAll H1 xs ds) {src : Mp → Prop} : Yields false (Itt K a) ds src fr H1 := by
  have sq : ∀ H2, TupLe H1 H2 → SqT K H2 a xs := fun H2 t => sqt_of (t _ _ _ g1)
  refine ⟨fun i m' r' s' H' hi S' _ t' => ?_, fun i m' r' s' H' x H2 hi S' _ t' y => ?_, fun m' r' s' H' S' _ t' => ?_⟩
  · exact ⟨xs, _, sq H' t', List.getElem?_eq_getElem (by rw [g3.length]; exact hi)⟩
  · obtain ⟨rfl, y⟩ := y
    obtain ⟨d, h1, h2⟩ := g3.getV (y xs (sq H2 t'))
    exact ⟨d, h1, S', TupLe.refl _, h2.go t'⟩
  · exact ⟨xs, sq H' t', by rw [g3.length]; exact Nat.le_refl _⟩
theorem ei_tup {ds : List Dt} (h : Ev te r m (.tup ds)) : EvI false (iTup K te) r m ds (fun _ => True) := fun fr s H S R q => h fr s H S _ fun v H1 S1 t1 r1 => by
  obtain ⟨a, o, xs, rfl, g1, g2, g3⟩ := tup_of r1
  exact ⟨a, rfl, ⟨xs, sqt_of g1⟩, q _ fr H1 (fun _ _ e => e) S1 t1 (yields_tup g1 g3)⟩
theorem ei_list {a : Addr} {ds : List Dt} (h : Ev te r m (.ref a)) (hm : m a = some (.lst ds)) : EvI false (iList K te) r m ds (fun m' => m' a = some (.lst ds)) := fun fr s H S R q => h fr s H S _ fun v H1 S1 t1 r1 => by
  cases r1
  obtain ⟨xs0, g1, g3⟩ := S1.mst.mem a _ hm
  refine ⟨a, rfl, ⟨xs0, SqL.of g1⟩, q _ fr H1 (fun _ _ e => e) S1 t1 ⟨fun i m' r' s' H' hi S' hs t' => ?_, fun i m' r' s' H' x H2 hi S' hs t' y => ?_, fun m' r' s' H' S' hs t' => ?_⟩⟩
  · obtain ⟨xs, g1, g3⟩ := S'.mst.mem a _ hs
    exact ⟨xs, _, SqL.of g1, List.getElem?_eq_getElem (by rw [g3.length]; exact hi)⟩
  · obtain ⟨rfl, y⟩ := y
    obtain ⟨xs, g1, g3⟩ := S'.mst.mem a _ hs
    obtain ⟨d, h1, h2⟩ := g3.getV (y xs (SqL.of g1))
    exact ⟨d, h1, S', TupLe.refl _, h2⟩
  · obtain ⟨xs, g1, g3⟩ := S'.mst.mem a _ hs
    exact ⟨xs, SqL.of g1, by rw [g3.length]; exact Nat.le_refl _⟩
/-- a list of the frame -/
theorem yields_lst {a : Addr} {xs : List V} {ds : List Dt} {fr : Hp} {H1 : Hp} (g1 : fr a = some (.lst xs)) (g3 : RepAll H1 xs ds) {src : Mp → Prop} : Yields false (Itl K a) ds src fr H1 := by
  refine ⟨fun i m' r' s' H' hi S' _ t' => ?_, fun i m' r' s' H' x H2 hi S' _ t' y => ?_, fun m' r' s' H' S' _ t' => ?_⟩
  · exact ⟨xs, _, SqL.of (S'.mst.frm _ _ g1), List.getElem?_eq_getElem (by rw [g3.length]; exact hi)⟩
  · obtain ⟨rfl, y⟩ := y
    obtain ⟨d, h1, h2⟩ := g3.getV (y xs (SqL.of (S'.mst.frm _ _ g1)))
    exact ⟨d, h1, S', TupLe.refl _, h2.go t'⟩
  · exact ⟨xs, SqL.of (S'.mst.frm _ _ g1), by rw [g3.length]; exact Nat.le_refl _⟩
/-- a told object laid into the frame -/
def addF (fr : Hp) (a : Addr) (u : HO) : Hp := fun b => if b = a then some u else fr b
theorem addF_le {fr : Hp} {a : Addr} {u : HO} (h : fr a = none) : ∀ b o, fr b = some o → addF fr a u b = some o := fun b o e => by
  unfold addF
  rw [if_neg (fun z => by rw [z, h] at e; cases e)]
  exact e
theorem Sto.toF {fr : Hp} {s : L2.St} {H : Hp} {a : Addr} {o : MO} {u : HO} (S : Sto fr r (mu m a o) s H) (n : m a = none) (g : H a = some u) : Sto (addF fr a u) r m s H := by
  refine ⟨⟨fun b o' e => ?_, fun b o' e => ?_, fun b o' e => ?_⟩, S.len, S.slot⟩
  · exact (S.less (MLe.new n)).mst.mem b o' e
  · unfold addF at e
    split at e
    · rename_i h
      subst h
      cases e
      exact g
    · exact S.mst.frm b o' e
  · unfold addF
    rw [if_neg (fun z => by rw [z, n] at e; cases e)]
    exact (S.less (MLe.new n)).mst.sep b o' e
theorem ei_listN {ds : List Dt} (h : EvN te r m (.lst ds)) : EvI false (iList K te) r m ds (fun _ => True) := fun fr s H S R q => h fr s H S _ fun a H1 n f S1 t1 => by
  obtain ⟨xs, g1, g3⟩ := S1.mst.mem a _ mu_same
  exact ⟨a, rfl, ⟨xs, SqL.of g1⟩, q _ (addF fr a (.lst xs)) H1 (addF_le f) (S1.toF n g1) t1 (yields_lst (by unfold addF; rw [if_pos rfl]) g3)⟩
theorem range_get {n i : Nat} {lo : Int} (h : i < n) : ((List.range n).map fun k => Dt.int (lo + (k : Nat)))[i]? = some (.int (lo + (i : Nat))) := by
  rw [List.getElem?_map, List.getElem?_range h]
  rfl
theorem yields_rng {lo : Int} {n : Nat} {fr : Hp} {H1 : Hp} {src : Mp → Prop} : Yields false (Itr lo n) ((List.range n).map fun k => Dt.int (lo + (k : Nat))) src fr H1 := by
  refine ⟨fun i m' r' s' H' hi S' _ t' => by show i < n; simpa using hi, fun i m' r' s' H' x H2 hi S' _ t' y => ?_, fun m' r' s' H' S' _ t' => by show n ≤ _; simp⟩
  obtain ⟨rfl, rfl⟩ := y
  exact ⟨_, range_get (by simpa using hi), S', TupLe.refl _, .int _⟩
theorem ei_rng1 {tr : TA} {n : Int} (h : EvA tr r m [.int n]) (h1 : -100000 ≤ n ∧ n ≤ 100000) : EvI false (iRng1 tr) r m ((List.range n.toNat).map fun k => Dt.int (0 + (k : Nat))) (fun _ => True) := fun fr s H S R q => h fr s H S _ fun vs H1 S1 t1 r1 => by
  cases r1 with
  | cons r1 r2 =>
    cases r2
    cases r1
    exact ⟨n, rfl, by omega, by omega, q _ fr H1 (fun _ _ e => e) S1 t1 yields_rng⟩
theorem ei_rng2 {tr : TA} {i j : Int} (h : EvA tr r m [.int i, .int j]) (h1 : -100000 ≤ i ∧ i ≤ 100000 ∧ -100000 ≤ j ∧ j ≤ 100000) : EvI false (iRng2 tr) r m ((List.range (j - i).toNat).map fun k => Dt.int (i + (k : Nat))) (fun _ => True) := fun fr s H S R q => h fr s H S _ fun vs H1 S1 t1 r1 => by
  cases r1 with
  | cons r1 r2 =>
    cases r2 with
    | cons r2 r3 =>
      cases r3
      cases r1
      cases r2
      exact ⟨i, j, rfl, ⟨by omega, by omega, by omega, by omega⟩, q _ fr H1 (fun _ _ e => e) S1 t1 yields_rng⟩
/-- reversed(range(n)) -/
theorem ei_revR1 {n : Int} (h : Ev te r m (.int n)) (h1 : 0 ≤ n ∧ n ≤ 100000) : EvI false (iRevR (tRg1 te)) r m ((List.range n.toNat).map fun k => Dt.int (n - 1 - (k : Nat))) (fun _ => True) := fun fr s H S R q => h fr s H S _ fun v H1 S1 t1 r1 => by
  cases r1
  refine ⟨n, rfl, by omega, by omega, by omega, by omega, q _ fr H1 (fun _ _ e => e) S1 t1 ⟨fun i m' r' s' H' hi S' _ t' => ?_, fun i m' r' s' H' x H2 hi S' _ t' y => ?_, fun m' r' s' H' S' _ t' => ?_⟩⟩
  · show i < (n - 0).toNat
    rw [List.length_map, List.length_range] at hi
    omega
  · obtain ⟨rfl, rfl⟩ := y
    rw [List.length_map, List.length_range] at hi
    refine ⟨.int (n - 1 - (i : Nat)), by rw [List.getElem?_map, List.getElem?_range hi]; rfl, S', TupLe.refl _, ?_⟩
    have e : (0 : Int) + (((n - 0).toNat : Nat) : Int) - 1 + (i : Nat) * (-1) = n - 1 - (i : Nat) := by omega
    rw [e]
    exact .int _
  · show (n - 0).toNat ≤ _
    rw [List.length_map, List.length_range]
    omega

/-! ### a def by its promise -/
def startD (N : List Str) (ds : List Dt) : Ro := ds.map some ++ List.replicate (N.length - ds.length) none
theorem slot_start {H : Hp} : ∀ {vs : List V} {ds : List Dt}, RepAll H vs ds → ∀ (k : Nat) (i : Nat) (d : Dt), (ds.map some ++ List.replicate k none)[i]? = some (some d) → ∃ v, (vs.map some ++ List.replicate k none)[i]? = some (some v) ∧ Rep H v d
  | _, _, .nil, k, i, d, e => by
    simp only [List.map_nil, List.nil_append] at e
    rw [List.getElem?_replicate] at e
    split at e <;> cases e
  | _, _, .cons h t, k, 0, d, e => by
    simp only [List.map_cons, List.cons_append, List.getElem?_cons_zero] at e
    cases e
    exact ⟨_, rfl, h⟩
  | _, _, .cons h t, k, i + 1, d, e => by
    simp only [List.map_cons, List.cons_append, List.getElem?_cons_succ] at e ⊢
    exact slot_start t k i d e
end
section
variable {P : Program} {w : World} {K : PySem.W.Frag} {mg : Str → Option Value} {base : Heap}
theorem fn_tb {ι : Type} {ds : ι → List Dt} {pre : ι → Mp → Prop} {post : ι → Mp → Dt → Mp → Prop} {x qual : Str} {st : Stmt} {f : Addr} {fd : FuncData} {N ps : List Str} {k : Nat} (F : Fun K x qual st f fd) (Sc : FnScope N ps (defScope st))
    (len : ∀ i, (ds i).length = ps.length)
    (hbody : ∀ (cdv : Value) (A : Around) (outer : List Env) (s : Shared) (H : Hp) (E : XK), Room k (A.deeper (envOfC qual (defScope st) s.heap.objs.size f cdv)) →
      ∃ t, PSs (cxOf CX0 P w K mg base N qual (defScope st) f cdv A outer s H E).nox (defBody st) t ∧ ∀ i m, pre i m → St t (fun _ => Wk (post i m .non)) (fun d => Wk (post i m d)) (startD N (ds i)) m) :
    FnOk P w K mg base CX0 (k + 1) f fd ps (spOf ds pre post) := by
  refine F.ok Sc (fun vs H Q E h => ?_) (fun cdv A outer s H vs Q E hr h => ?_)
  · obtain ⟨fr, i, m, _, hr, _⟩ := h
    rw [hr.length, len]
  · obtain ⟨fr, i, m, hm, hv, hp, q⟩ := h
    obtain ⟨t, h1, h2⟩ := hbody cdv A outer s H E hr
    refine ⟨t, h1, h2 i m hp fr _ H _ ⟨hm, ?_, fun j d e => ?_⟩ (fun r' m' s' H' hn S' t' => let ⟨m5, l5, w5⟩ := hn; q .non m5 .non H' w5 (S'.mst.less l5) t' .non) fun d m' v H' hr' S' t' rv => let ⟨m5, l5, w5⟩ := hr'; q d m5 v H' w5 (S'.less l5) t' rv⟩
    · unfold startD L2.start
      rw [List.length_append, List.length_append, List.length_map, List.length_map, hv.length, List.length_replicate, List.length_replicate]
    · unfold startD at e
      unfold L2.start
      rw [hv.length]
      exact slot_start hv _ j d e
end
end TB
set_option Elab.async false
set_option linter.all false
set_option autoImplicit false
set_option maxRecDepth 100000
set_option maxHeartbeats 4000000
/-! TB, walks over enumerate and zip of lists and tuples alike; dict(a tuple of pairs); extend by a tuple. -/
namespace TB
open PySem PySem.Spec PyProof.Rows L2 RT

/-! ### lists and tuples alike -/
def SqB (b : Bool) (K : PySem.W.Frag) (H : Hp) (a : Addr) (xs : List V) : Prop := match b with
  | true => SqL K H a xs
  | false => SqT K H a xs
def IsB (b : Bool) (h : Heap) (a : Addr) (items : Array Value) : Prop := match b with
  | true => h.IsList a items
  | false => h.IsTuple a items
def ItB (b : Bool) (h : Heap) (it a : Addr) (i : Nat) : Prop := match b with
  | true => h.IsListIter it a i
  | false => h.IsTupleIter it a i
def obB (b : Bool) (a : Addr) : Obj := match b with
  | true => { cls := .type "list_iterator", data := .fields #[.ref a, .int 0 0] }
  | false => { cls := .type "tuple_iterator", data := .fields #[.ref a, .int 0 0] }
theorem begins_B (b : Bool) (a : Addr) (items : Array Value) : Begins (.ref a) (obB b a) fun h => IsB b h a items := by
  cases b with
  | true => exact begins_list a items
  | false => exact begins_tuple a items
theorem drawsB {prog : Program} {w : World} {A : Around} (b : Bool) (hh : A.handled = none) (it a : Addr) (hne : a ≠ it) (items : Array Value) :
    Draws prog w A it [it, a] items.size (fun i v => items[i]? = some v) (fun i h => ItB b h it a i ∧ IsB b h a items) := by
  cases b with
  | true => exact Draws.list hh it a hne items
  | false => exact Draws.tuple hh it a hne items
theorem ItB.at {b : Bool} {h h' : Heap} {it a : Addr} {i : Nat} (x : ItB b h it a i) (k : ∀ o, h.get? it = some o → h'.get? it = some o) : ItB b h' it a i := by
  cases b with
  | true => exact Heap.IsListIter.at x k
  | false => exact Heap.IsTupleIter.at x k
theorem ItB.ob {b : Bool} {h : Heap} {it a : Addr} {i : Nat} (x : ItB b h it a i) : ∃ o, h.get? it = some o ∧ ∀ v, o.data ≠ .cell v := by
  cases b with
  | true => obtain ⟨o, e, _, d⟩ := x; exact ⟨o, e, fun v q => by rw [d] at q; cases q⟩
  | false => obtain ⟨o, e, _, d⟩ := x; exact ⟨o, e, fun v q => by rw [d] at q; cases q⟩
theorem ItB.new (b : Bool) {h : Heap} {it a : Addr} (x : h.get? it = some (obB b a)) : ItB b h it a 0 := by
  cases b with
  | true => exact ⟨_, x, rfl, rfl⟩
  | false => exact ⟨_, x, rfl, rfl⟩
theorem IsB.lt {b : Bool} {h : Heap} {a : Addr} {items : Array Value} (x : IsB b h a items) : a < h.objs.size := by
  cases b with
  | true => obtain ⟨o, e, _⟩ := x; exact Heap.lt_size e
  | false => obtain ⟨o, e, _⟩ := x; exact Heap.lt_size e
theorem ItB.ne {b c : Bool} {h : Heap} {it a p : Addr} {i : Nat} {items : Array Value} (x : ItB b h it a i) (y : IsB c h p items) : p ≠ it := by
  intro e; subst e
  cases b <;> cases c <;> (obtain ⟨o, e1, c1, _⟩ := x; obtain ⟨o2, e2, c2, _⟩ := y; rw [e1] at e2; cases e2; rw [c1] at c2; injection c2 with c2; revert c2; decide)
theorem IsB.neOb {c : Bool} {h : Heap} {a p : Addr} {o : Obj} {items : Array Value} (x : IsB c h a items) (y : h.get? p = some o) (n1 : o.cls ≠ .type "list") (n2 : o.cls ≠ .type "tuple") : p ≠ a := by
  intro e; subst e
  cases c with
  | true => obtain ⟨o2, e2, c2, _⟩ := x; rw [y] at e2; cases e2; exact n1 c2
  | false => obtain ⟨o2, e2, c2, _⟩ := x; rw [y] at e2; cases e2; exact n2 c2
section
variable {X : Cx} {pins : List (Addr × Obj)} {σ : L2.St} {H : Hp} {s : Shared} {a : Addr} {xs ys : List V}
theorem invB (I : Inv X pins σ H s) {b : Bool} (h : SqB b X.K H a xs) : ∃ its, Vals xs its ∧ IsB b s.heap a its.toArray := by
  cases b with
  | true => obtain ⟨its, r, p, _⟩ := I.list h; exact ⟨its, r, p.isList⟩
  | false => obtain ⟨its, r, p, _⟩ := I.tuple h; exact ⟨its, r, p⟩
theorem injB (I : Inv X pins σ H s) {b : Bool} (h : SqB b X.K H a xs) (h' : SqB b X.K H a ys) : xs = ys := by
  cases b with
  | true => exact I.list_inj h h'
  | false => exact I.tuple_inj h h'
end

/-! ### enumerate -/
def IteB (b : Bool) (K : PySem.W.Frag) (a : Addr) : It :=
  ⟨fun i H => ∃ (xs : List V) (x : V), SqB b K H a xs ∧ xs[i]? = some x, fun i H v H' => ∃ T x, v = .ref T ∧ H T = none ∧ H' = upd H T (.tup [.int (i : Nat), x]) ∧ ∀ xs, SqB b K H a xs → xs[i]? = some x, fun i H => ∃ xs : List V, SqB b K H a xs ∧ xs.length = i⟩
theorem turn_enumB {P : Program} {w : World} {K : PySem.W.Frag} {elts : List Expr} {kk : Nat} {tpos : Pos} (c : Bool) (a e it : Addr) :
    Turn P w K (.Tuple elts kk tpos) (IteB c K a) [e, it] e (fun i h => (∃ old, IsEnum h e it ((i : Nat) : Int) old) ∧ ItB c h it a i ∧ e ≠ it) where
  mem := by simp
  obj := fun i h st b hb => by
    obtain ⟨⟨old, he⟩, hi, _⟩ := st
    have e' : b = e ∨ b = it := by simpa using hb
    rcases e' with z | z
    · rw [z]; exact ⟨_, he, fun v q => nomatch q⟩
    · rw [z]; exact hi.ob
  keep := fun i h h' st k => let ⟨⟨old, he⟩, hi, hne⟩ := st; ⟨⟨old, k e (by simp) _ he⟩, hi.at fun o q => k it (by simp) o q, hne⟩
  item := by
    intro X hP hw hK hc i pins s σ H E I hf st hg
    subst hP hw hK
    obtain ⟨⟨old, he⟩, hit, hne⟩ := st
    obtain ⟨xs, x, hq, hx⟩ := hg
    obtain ⟨its, rv, p⟩ := invB I hq
    obtain ⟨u, hu, ru⟩ := rv.get hx
    have hel : e < s.heap.objs.size := Heap.lt_size he
    have hil : it < s.heap.objs.size := by obtain ⟨_, q, _⟩ := hit.ob; exact Heap.lt_size q
    have hai := hit.ne p
    have hea : e ≠ a := p.neOb he (by simp) (by simp)
    have hlen : i < its.toArray.size := by
      have := (List.getElem?_eq_some_iff.mp hu).1
      simpa using this
    refine wpAny_pyNext_enum_itemC (P := fun i v => its.toArray[i]? = some v) (drawsB c (by show X.A.handled = none; exact I.ok.hd hc) it a hai its.toArray) he ⟨hit, p⟩ hlen hne (by simp [hne, hea]) fun x' h' tk hP ho hst hT hsz hk => ?_
    have hx' : x' = u := by
      have e1 : its[i]? = some x' := by simpa using hP
      rw [hu] at e1
      exact (Option.some.inj e1).symm
    subst hx'
    refine ⟨_, rfl, wpAny_letOwnedTupleGo_enum (s := { s with heap := h', toks := tk + 1 }) ho fun h'' he' sb => ?_⟩
    have hT2 : h''.get? s.heap.objs.size = some { cls := .type "tuple", data := .seq #[.int i tk, x'] } := (sb.2 _ (Nat.ne_of_gt hel)).trans hT
    have new : ObjOk X.prog X.w (upd H s.heap.objs.size (.tup [.int (i : Nat), x])) h'' s.heap.objs.size (.tup [.int (i : Nat), x]) :=
      ⟨by show 2 ≤ sizeLine; decide, [.int i tk, x'], .cons ⟨_, rfl⟩ (.cons ru .nil), ⟨_, hT2, rfl, _, rfl⟩⟩
    have I1 : Inv X pins σ (upd H s.heap.objs.size (.tup [.int (i : Nat), x])) { s with heap := h'', toks := tk + 1 } :=
      I.turnedNew (ch := [e, it]) (fun b ob hb q => (sb.2 b (fun z => hb (by simp [z]))).trans (hk b ob (fun z => hb (by simp [z])) (fun z => hb (by simp [z])) q)) hf (Nat.le_refl _) new
    refine ⟨.ref s.heap.objs.size, _, I1, rfl, ⟨_, x, rfl, I.hok.fresh (Nat.le_refl _), rfl, fun ys hy => by rw [injB I hy hq]; exact hx⟩, ⟨⟨x', ?_⟩, hst.1.at fun o q => (sb.2 it (Ne.symm hne)).trans q, hne⟩, fun b hb => ?_⟩
    · have e1 : ((i + 1 : Nat) : Int) = (i : Int) + 1 := by omega
      rw [e1]; exact he'
    · have hb' : b < s.heap.objs.size := by
        have e' : b = e ∨ b = it := by simpa using hb
        rcases e' with z | z
        · rw [z]; exact hel
        · rw [z]; exact hil
      rw [upd_ne (Nat.ne_of_lt hb')]
      exact (hf b hb).1
  done := by
    intro X hP hw hK hc i pins s σ H E I hf st hg
    subst hP hw hK
    obtain ⟨⟨old, he⟩, hit, hne⟩ := st
    obtain ⟨xs, hq, hx⟩ := hg
    obtain ⟨its, rv, p⟩ := invB I hq
    have hl := rv.length
    have hai := hit.ne p
    have ei : i = its.toArray.size := by simp; omega
    subst ei
    exact wpAny_pyNext_enum_endD (drawsB c (by show X.A.handled = none; exact I.ok.hd hc) it a hai its.toArray) he ⟨hit, p⟩ fun h' eb => ⟨rfl, I.turnedL (t' := s.toks) (ch := [e, it]) (fun b o hb q => eb b o (fun z => hb (by simp [z])) q) hf⟩
  self := fun A i s Q E st h => let ⟨⟨_, he⟩, _⟩ := st; wpAny_pyIter_enum he h
def iEnB (b : Bool) (K : PySem.W.Frag) (ta : TA) : TI := fun σ H R => ta σ H fun vs H1 => ∃ a xs, vs = [.ref a] ∧ SqB b K H1 a xs ∧ R (IteB b K a) H1
set_option maxHeartbeats 1000000 in
theorem meets_enum1 {v : Value} {o : Obj} {H : Heap → Prop} (B : Begins v o H) :
    Meets (Builtin.«enumerate.__new__» ⟨[.type "enumerate", v], []⟩) (fun _ R s => H s.heap ∧
      R (.ok (.ret (.ref (s.heap.push o).objs.size))) { s with heap := (s.heap.push o).push { cls := .type "enumerate", data := .fields #[.none, .bool false, .ref s.heap.objs.size, rawInt 0, .none, .none] } }) :=
  .of_wp fun prog w A R s h => by
    obtain ⟨hp, g, d, tk, os⟩ := s; obtain ⟨h1, h⟩ := h
    have hsub := sub_enumerate
    have q1 : ∀ {A' : Around} {E : Value → Shared → Prop} {Q : Value → Shared → Prop}, Q (.ref hp.objs.size) ⟨hp.push o, g, d, tk, os⟩ → wpAny (model prog w) A' (pyIter v) Q E ⟨hp, g, d, tk, os⟩ :=
      fun q => B.iter prog w _ _ ⟨hp, g, d, tk, os⟩ _ h1 q
    wp_walk using q1
    refine wpAny_stack_any fun st => wpAny_pure ?_
    split
    · rename_i c _ _ _ _ _
      cases (c == Value.type "enumerate")
      · wp_walk using q1
        exact ⟨_, rfl, h⟩
      · wp_walk using q1
        exact ⟨_, rfl, h⟩
    · wp_walk using q1
      exact ⟨_, rfl, h⟩
theorem enum1 {prog : Program} {w : World} {A : Around} {E : Value → Shared → Prop} {s : Shared} {v : Value} {o : Obj} {H : Heap → Prop} {Q : Value → Shared → Prop} (B : Begins v o H) (h1 : H s.heap)
    (h : ∀ h', IsEnum h' (s.heap.objs.size + 1) s.heap.objs.size 0 .none → h'.get? s.heap.objs.size = some o →
      (∀ b o, s.heap.get? b = some o → h'.get? b = some o) → Q (.ref (s.heap.objs.size + 1)) { s with heap := h' }) :
    wpAny (model prog w) A (call (.type "enumerate") [v]) Q E s := by
  refine callType_new F.called_enumerate (by decide) (F.typeCall_enumerate_1 _) (F.newCall_enumerate_1 _) (fun obj => F.args_object_init_2 obj _) F.entry_enumerate_new
    (meets_enum1 B) ⟨h1, ?_⟩
  have hz : (s.heap.push o).objs.size = s.heap.objs.size + 1 := Heap.size_push ..
  show _ ∧ _
  rw [hz]
  have he : IsEnum ((s.heap.push o).push { cls := .type "enumerate", data := .fields #[.none, .bool false, .ref s.heap.objs.size, rawInt 0, .none, .none] }) (s.heap.objs.size + 1) s.heap.objs.size 0 .none := by
    have := Heap.get?_push_size (s.heap.push o) (o := { cls := .type "enumerate", data := .fields #[.none, .bool false, .ref s.heap.objs.size, rawInt 0, .none, .none] }) rfl
    rw [hz] at this; exact this
  exact ⟨⟨_, he, rfl⟩, h _ he (Heap.get?_push_of_some _ (Heap.get?_push_size _ B.free)) fun b o x => Heap.get?_push_of_some _ (Heap.get?_push_of_some _ x)⟩
theorem pi_enumB (b : Bool) {X : Cx} {e : Expr} {ta : TA} {p pos tpos : Pos} {elts : List Expr} {kk : Nat} (hg : Gl X "enumerate") (hm : X.mg "enumerate" = none) (ha : PA X [e] ta) (hs : starEach [e] X.env = [(false, eval e X.env)] := by rfl) :
    PI X (.Tuple elts kk tpos) (.Call (.Name "enumerate" p) [e] [] pos) (iEnB b X.K ta) := by
  refine ⟨fun pins s σ H R I h => ?_⟩
  refine Call_ (ld_blt I hg hm boot_enumerate (PyProof.Rows.callWith_type1 (thn (ha.run pos pins s σ H _ I h) fun us s1 ⟨vs, H1, I1, r1, q1⟩ => ?_) hs rfl))
  obtain ⟨a, xs, ex, hq, q⟩ := q1
  subst ex
  cases r1 with
  | cons r rr =>
    cases rr
    cases r
    obtain ⟨its, rv, p'⟩ := invB I1 hq
    refine enum1 (begins_B b a its.toArray) p' fun h' he hit hk => wpAny_pyIter_enum he ?_
    have I2 : Inv X pins σ H1 { s1 with heap := h' } := I1.kept (t' := s1.toks) hk
    refine ⟨s1.heap.objs.size + 1, [s1.heap.objs.size + 1, s1.heap.objs.size], _, _, H1, rfl, I2, turn_enumB b a (s1.heap.objs.size + 1) s1.heap.objs.size, ⟨⟨.none, he⟩, ItB.new b hit, Nat.succ_ne_self _⟩, fun b hb => ?_, q⟩
    have e' : b = s1.heap.objs.size + 1 ∨ b = s1.heap.objs.size := by simpa using hb
    have hle : s1.heap.objs.size ≤ b := by
      rcases e' with z | z
      · rw [z]; exact Nat.le_add_right _ _
      · rw [z]; exact Nat.le_refl _
    exact I1.fpOk hle (I1.hok.fresh hle)

/-! ### zip -/
def ItzB (b c : Bool) (K : PySem.W.Frag) (a a' : Addr) : It :=
  ⟨fun i H => ∃ (xs ys : List V) (x y : V), SqB b K H a xs ∧ SqB c K H a' ys ∧ xs[i]? = some x ∧ ys[i]? = some y,
    fun i H v H' => ∃ T x y, v = .ref T ∧ H T = none ∧ H' = upd H T (.tup [x, y]) ∧ (∀ xs, SqB b K H a xs → xs[i]? = some x) ∧ ∀ ys, SqB c K H a' ys → ys[i]? = some y,
    fun i H => ∃ xs ys : List V, SqB b K H a xs ∧ SqB c K H a' ys ∧ i ≤ xs.length ∧ i ≤ ys.length ∧ (i = xs.length ∨ i = ys.length)⟩
theorem turn_zipB {P : Program} {w : World} {K : PySem.W.Frag} {elts : List Expr} {kk : Nat} {tpos : Pos} {a b z TI TO i1 i2 : Addr} (c c' : Bool) (D : ZipSep2 z TI TO i1 i2 [i1, a] [i2, b]) (h12 : i1 ≠ i2) :
    Turn P w K (.Tuple elts kk tpos) (ItzB c c' K a b) [z, TI, TO, i1, i2] z (fun i h => IsZip h z TI TO .none ∧ IsTupOf2 h TI (.ref i1) (.ref i2) ∧ (∃ x y, IsTupOf2 h TO x y) ∧ ItB c h i1 a i ∧ ItB c' h i2 b i) where
  mem := by simp
  obj := fun i h st k hk => by
    obtain ⟨hz, hTI, ⟨x, y, hTO⟩, h1, h2⟩ := st
    have e' : k = z ∨ k = TI ∨ k = TO ∨ k = i1 ∨ k = i2 := by simpa using hk
    rcases e' with q | q | q | q | q
    · rw [q]; exact ⟨_, hz, fun v q => nomatch q⟩
    · rw [q]; exact ⟨_, hTI, fun v q => nomatch q⟩
    · rw [q]; exact ⟨_, hTO, fun v q => nomatch q⟩
    · rw [q]; exact h1.ob
    · rw [q]; exact h2.ob
  keep := fun i h h' st k => by
    obtain ⟨hz, hTI, ⟨x, y, hTO⟩, h1, h2⟩ := st
    exact ⟨k z (by simp) _ hz, k TI (by simp) _ hTI, ⟨x, y, k TO (by simp) _ hTO⟩, h1.at fun o q => k i1 (by simp) o q, h2.at fun o q => k i2 (by simp) o q⟩
  item := by
    intro X hP hw hK hc i pins s σ H E I hf st hg
    subst hP hw hK
    obtain ⟨hz, hTI, ⟨x0, y0, hTO⟩, h1, h2⟩ := st
    obtain ⟨xs, ys, x, y, hqx, hqy, hx, hy⟩ := hg
    obtain ⟨its, rv, p⟩ := invB I hqx
    obtain ⟨its2, rv2, p2⟩ := invB I hqy
    obtain ⟨u, hu, ru⟩ := rv.get hx
    obtain ⟨u2, hu2, ru2⟩ := rv2.get hy
    have hzl : z < s.heap.objs.size := Heap.lt_size hz
    have l1 : i < its.toArray.size := by have := (List.getElem?_eq_some_iff.mp hu).1; simpa using this
    have l2 : i < its2.toArray.size := by have := (List.getElem?_eq_some_iff.mp hu2).1; simpa using this
    have hh : X.A.in1.handled = none := by show X.A.handled = none; exact I.ok.hd hc
    refine wpAny_pyNext_zipD2_item (P1 := fun i v => its.toArray[i]? = some v) (P2 := fun i v => its2.toArray[i]? = some v) D (drawsB c hh i1 a (h1.ne p) its.toArray) (drawsB c' hh i2 b (h2.ne p2) its2.toArray) hz hTI hTO ⟨h1, p⟩ ⟨h2, p2⟩ l1 l2 fun v1 v2 h' tk y1 y2 z' TO' d1 d2 hT hsz hk => ?_
    have e1 : v1 = u := by
      have e1 : its[i]? = some v1 := by simpa using y1
      rw [hu] at e1; exact (Option.some.inj e1).symm
    have e2 : v2 = u2 := by
      have e1 : its2[i]? = some v2 := by simpa using y2
      rw [hu2] at e1; exact (Option.some.inj e1).symm
    subst e1 e2
    refine ⟨_, rfl, wpAny_letOwnedTupleGo_zip (s := { s with heap := h', toks := tk }) z' fun h'' z'' sb => ?_⟩
    have hT2 : h''.get? s.heap.objs.size = some { cls := .type "tuple", data := .seq #[v1, v2] } := (sb.2 _ (Nat.ne_of_gt hzl)).trans hT
    have new : ObjOk X.prog X.w (upd H s.heap.objs.size (.tup [x, y])) h'' s.heap.objs.size (.tup [x, y]) :=
      ⟨by show 2 ≤ sizeLine; decide, [v1, v2], .cons ru (.cons ru2 .nil), ⟨_, hT2, rfl, _, rfl⟩⟩
    have I1 : Inv X pins σ (upd H s.heap.objs.size (.tup [x, y])) { s with heap := h'', toks := tk } :=
      I.turnedNew (t' := tk) (ch := [z, TI, TO, i1, i2]) (fun c o hb q => (sb.2 c (fun q' => hb (by simp [q']))).trans (hk c o (fun q' => hb (by simp [q'])) (fun q' => hb (by simp [q'])) (fun q' => hb (by simp [q'])) (fun q' => hb (by simp [q'])) q)) hf (Nat.le_refl _) new
    refine ⟨.ref s.heap.objs.size, _, I1, rfl, ⟨_, x, y, rfl, I.hok.fresh (Nat.le_refl _), rfl, fun l hl => by rw [injB I hl hqx]; exact hx, fun l hl => by rw [injB I hl hqy]; exact hy⟩, ⟨z'', ?_, ⟨v1, v2, ?_⟩, ?_, ?_⟩, fun c hcm => ?_⟩
    · exact (sb.2 _ D.TIz).trans (hk _ _ D.TIz D.TITO D.TIi1 D.TIi2 hTI)
    · exact (sb.2 _ D.TOz).trans TO'
    · exact d1.1.at fun o q => (sb.2 _ (Ne.symm D.zi1)).trans q
    · exact d2.1.at fun o q => (sb.2 _ (Ne.symm D.zi2)).trans q
    · have hlt : c < s.heap.objs.size := by
        have e' : c = z ∨ c = TI ∨ c = TO ∨ c = i1 ∨ c = i2 := by simpa using hcm
        rcases e' with q | q | q | q | q
        · rw [q]; exact hzl
        · rw [q]; exact Heap.lt_size hTI
        · rw [q]; exact Heap.lt_size hTO
        · rw [q]; obtain ⟨_, e1, _⟩ := h1.ob; exact Heap.lt_size e1
        · rw [q]; obtain ⟨_, e2, _⟩ := h2.ob; exact Heap.lt_size e2
      rw [upd_ne (Nat.ne_of_lt hlt)]
      exact (hf c hcm).1
  done := by
    intro X hP hw hK hc i pins s σ H E I hf st hg
    subst hP hw hK
    obtain ⟨hz, hTI, ⟨x0, y0, hTO⟩, h1, h2⟩ := st
    obtain ⟨xs, ys, hqx, hqy, le1, le2, hend⟩ := hg
    obtain ⟨its, rv, p⟩ := invB I hqx
    obtain ⟨its2, rv2, p2⟩ := invB I hqy
    have l1 := rv.length
    have l2 := rv2.length
    have s1 : its.toArray.size = its.length := by simp
    have s2 : its2.toArray.size = its2.length := by simp
    have hh : X.A.in1.handled = none := by show X.A.handled = none; exact I.ok.hd hc
    exact wpAny_pyNext_zipD2_end (i := i) D (drawsB c hh i1 a (h1.ne p) its.toArray) (drawsB c' hh i2 b (h2.ne p2) its2.toArray) hz hTI hTO ⟨h1, p⟩ ⟨h2, p2⟩ (by omega) (by omega) (by omega) fun h' tk hk => ⟨rfl, I.turnedL (t' := tk) (ch := [z, TI, TO, i1, i2]) (fun c o hb q =>
      hk c o (fun q' => hb (by simp [q'])) (fun q' => hb (by simp [q'])) (fun q' => hb (by simp [q'])) (fun q' => hb (by simp [q'])) q) hf⟩
  self := fun A i s Q E st h => wpAny_pyIter_zip st.1 h
def iZB (b c : Bool) (K : PySem.W.Frag) (ta : TA) : TI := fun σ H R => ta σ H fun vs H1 => ∃ a a' xs ys, vs = [.ref a, .ref a'] ∧ SqB b K H1 a xs ∧ SqB c K H1 a' ys ∧ R (ItzB b c K a a') H1
theorem pi_zipB (c c' : Bool) {X : Cx} {e e2 : Expr} {ta : TA} {p pos tpos : Pos} {elts : List Expr} {kk : Nat} (hg : Gl X "zip") (hm : X.mg "zip" = none) (ha : PA X [e, e2] ta)
    (hs : starEach [e, e2] X.env = (false, eval e X.env) :: starEach [e2] X.env := by rfl) (hpl : (backTo pos (starEach [e2] X.env)).any (·.1) = false := by rfl) :
    PI X (.Tuple elts kk tpos) (.Call (.Name "zip" p) [e, e2] [] pos) (iZB c c' X.K ta) := by
  refine ⟨fun pins s σ H R I h => ?_⟩
  refine Call_ (ld_blt I hg hm PyProof.Rows.boot_zip (PyProof.Rows.callWith_type1 (thn (ha.run pos pins s σ H _ I h) fun us s1 ⟨vs, H1, I1, r1, q1⟩ => ?_) hs hpl))
  obtain ⟨a, b, xs, ys, ex, hqx, hqy, q⟩ := q1
  subst ex
  cases r1 with
  | cons r rr =>
    cases rr with
    | cons r' rr =>
      cases rr
      cases r
      cases r'
      have fresh5 : ∀ c, c ∈ [s1.heap.objs.size + 4, s1.heap.objs.size + 2, s1.heap.objs.size + 3, s1.heap.objs.size, s1.heap.objs.size + 1] → FpOk X pins H1 c := fun c hcm => by
        have e' : c = s1.heap.objs.size + 4 ∨ c = s1.heap.objs.size + 2 ∨ c = s1.heap.objs.size + 3 ∨ c = s1.heap.objs.size ∨ c = s1.heap.objs.size + 1 := by simpa using hcm
        have hle : s1.heap.objs.size ≤ c := by
          rcases e' with z | z | z | z | z
          · rw [z]; exact Nat.le_add_right _ _
          · rw [z]; exact Nat.le_add_right _ _
          · rw [z]; exact Nat.le_add_right _ _
          · rw [z]; exact Nat.le_refl _
          · rw [z]; exact Nat.le_add_right _ _
        exact I1.fpOk hle (I1.hok.fresh hle)
      obtain ⟨its, rv, p1⟩ := invB I1 hqx
      obtain ⟨its2, rv2, p2⟩ := invB I1 hqy
      refine zip_begins2 (begins_B c a its.toArray) (begins_B c' b its2.toArray) p1 p2 fun h' hz hTI hTO h1 h2 hsz hk => wpAny_pyIter_zip hz ?_
      have I2 : Inv X pins σ H1 { s1 with heap := h' } := I1.kept (t' := s1.toks) hk
      have D : ZipSep2 (s1.heap.objs.size + 4) (s1.heap.objs.size + 2) (s1.heap.objs.size + 3) s1.heap.objs.size (s1.heap.objs.size + 1) [s1.heap.objs.size, a] [s1.heap.objs.size + 1, b] :=
        zip_sep2 (fun k hk => by have e : k = a := by simpa using hk
                                 rw [e]; exact p1.lt) (fun k hk => by have e : k = b := by simpa using hk
                                                                      rw [e]; exact p2.lt)
      exact ⟨s1.heap.objs.size + 4, [s1.heap.objs.size + 4, s1.heap.objs.size + 2, s1.heap.objs.size + 3, s1.heap.objs.size, s1.heap.objs.size + 1], _, _, H1, rfl, I2, turn_zipB c c' D (Nat.ne_of_lt (Nat.lt_succ_self _)), ⟨hz, hTI, ⟨_, _, hTO⟩, ItB.new c h1, ItB.new c' h2⟩, fresh5, q⟩

/-! ### what they yield -/
/-- the objects told by the source: a tuple always, a list while it is told so -/
theorem sqB_tup {K : PySem.W.Frag} {H : Hp} {a : Addr} {o : Obj} {xs : List V} (h : H a = some (.frz o (.tup xs))) : SqB false K H a xs := sqt_of h
theorem sqB_lst {K : PySem.W.Frag} {H : Hp} {a : Addr} {xs : List V} (h : H a = some (.lst xs)) : SqB true K H a xs := SqL.of h
end TB
set_option Elab.async false
set_option linter.all false
set_option autoImplicit false
set_option maxRecDepth 100000
set_option maxHeartbeats 4000000
/-! TB: what enumerate and zip give; dict(a tuple of pairs); extend by a tuple. -/
namespace TB
open PySem PySem.Spec PyProof.Rows L2 RT
section
variable {K : PySem.W.Frag} {r : Ro} {m m' : Mp} {ta : TA} {fr H1 : Hp} {a a' : Addr} {src : Mp → Prop}
/-- the sequence at a stands for ds as long as src says so -/
def SrcAt (b : Bool) (K : PySem.W.Frag) (a : Addr) (ds : List Dt) (src : Mp → Prop) (fr H0 : Hp) : Prop := ∀ m r s H, Sto fr r m s H → src m → TupLe H0 H → ∃ xs, SqB b K H a xs ∧ RepAll H xs ds
theorem src_tup {o : Obj} {xs : List V} {ds : List Dt} (g1 : H1 a = some (.frz o (.tup xs))) (g3 : RepAll H1 xs ds) : SrcAt false K a ds src fr H1 := fun m r s H S _ t => ⟨xs, sqt_of (t _ _ _ g1), g3.go t⟩
theorem src_lst {ds : List Dt} (hs : ∀ m, src m → m a = some (.lst ds)) : SrcAt true K a ds src fr H1 := fun m r s H S h t => by
  obtain ⟨xs, g1, g3⟩ := S.mst.mem a _ (hs m h)
  exact ⟨xs, SqL.of g1, g3⟩
theorem yields_enum {b : Bool} {ds : List Dt} (A : SrcAt b K a ds src fr H1) : Yields true (IteB b K a) (ds.zipIdx.map fun p => .tup [.int (p.2 : Nat), p.1]) src fr H1 := by
  refine ⟨fun i m r s H hi S hs t => ?_, fun i m r s H x H' hi S hs t y => ?_, fun m r s H S hs t => ?_⟩
  · obtain ⟨xs, h1, h2⟩ := A m r s H S hs t
    simp only [List.length_map, List.length_zipIdx] at hi
    exact ⟨xs, _, h1, List.getElem?_eq_getElem (by rw [h2.length]; exact hi)⟩
  · obtain ⟨xs, h1, h2⟩ := A m r s H S hs t
    obtain ⟨T, v, rfl, hT, rfl, y⟩ := y
    obtain ⟨d, e, rd⟩ := h2.getV (y xs h1)
    refine ⟨.tup [.int (i : Nat), d], ?_, S.junk hT, TupLe.new hT, T, _, _, rfl, upd_same, .cons (.int _) (.cons (rd.go (TupLe.new hT)) .nil), rfl⟩
    rw [List.getElem?_map, List.getElem?_zipIdx, e]
    simp
  · obtain ⟨xs, h1, h2⟩ := A m r s H S hs t
    exact ⟨xs, h1, by rw [h2.length]; simp⟩
theorem yields_zip {b c : Bool} {ds es : List Dt} (A : SrcAt b K a ds src fr H1) (B : SrcAt c K a' es src fr H1) : Yields true (ItzB b c K a a') ((ds.zip es).map fun p => .tup [p.1, p.2]) src fr H1 := by
  refine ⟨fun i m r s H hi S hs t => ?_, fun i m r s H x H' hi S hs t y => ?_, fun m r s H S hs t => ?_⟩
  · obtain ⟨xs, h1, h2⟩ := A m r s H S hs t
    obtain ⟨ys, h3, h4⟩ := B m r s H S hs t
    simp only [List.length_map, List.length_zip] at hi
    exact ⟨xs, ys, _, _, h1, h3, List.getElem?_eq_getElem (by rw [h2.length]; omega), List.getElem?_eq_getElem (by rw [h4.length]; omega)⟩
  · obtain ⟨xs, h1, h2⟩ := A m r s H S hs t
    obtain ⟨ys, h3, h4⟩ := B m r s H S hs t
    obtain ⟨T, v, w, rfl, hT, rfl, y1, y2⟩ := y
    obtain ⟨d, e1, rd⟩ := h2.getV (y1 xs h1)
    obtain ⟨d', e2, rd'⟩ := h4.getV (y2 ys h3)
    refine ⟨.tup [d, d'], ?_, S.junk hT, TupLe.new hT, T, _, _, rfl, upd_same, .cons (rd.go (TupLe.new hT)) (.cons (rd'.go (TupLe.new hT)) .nil), rfl⟩
    have e3 : (ds.zip es)[i]? = some (d, d') := by rw [List.getElem?_zip_eq_some]; exact ⟨e1, e2⟩
    rw [List.getElem?_map, e3]
    simp
  · obtain ⟨xs, h1, h2⟩ := A m r s H S hs t
    obtain ⟨ys, h3, h4⟩ := B m r s H S hs t
    have l1 := h2.length
    have l2 := h4.length
    refine ⟨xs, ys, h1, h3, ?_, ?_, ?_⟩ <;> simp only [List.length_map, List.length_zip] <;> omega
theorem zipIdx_enc {α : Type} (enc : α → Dt) (ys : List α) : ((ys.map enc).zipIdx.map fun p => Dt.tup [.int (p.2 : Nat), p.1]) = ys.zipIdx.map fun p => Dt.tup [.int (p.2 : Nat), enc p.1] := by
  apply List.ext_getElem?
  intro i
  rw [List.getElem?_map, List.getElem?_map, List.getElem?_zipIdx, List.getElem?_zipIdx, List.getElem?_map]
  cases ys[i]? <;> rfl
theorem zip_enc {α β : Type} (enc : α → Dt) (enc' : β → Dt) (xs : List α) (ys : List β) : (((xs.map enc).zip (ys.map enc')).map fun p => Dt.tup [p.1, p.2]) = (xs.zip ys).map fun p => Dt.tup [enc p.1, enc' p.2] := by
  rw [List.zip_map, List.map_map]
  rfl
theorem ei_enumT {α : Type} {enc : α → Dt} {ys : List α} (h : EvA ta r m [.tup (ys.map enc)]) : EvI true (iEnB false K ta) r m (ys.zipIdx.map fun p => .tup [.int (p.2 : Nat), enc p.1]) (fun _ => True) := fun fr s H S R q => h fr s H S _ fun vs H1 S1 t1 r1 => by
  cases r1 with
  | cons r1 r2 =>
    cases r2
    obtain ⟨a, o, xs, rfl, g1, g2, g3⟩ := tup_of r1
    refine ⟨a, xs, rfl, sqt_of g1, q _ fr H1 (fun _ _ e => e) S1 t1 ?_⟩
    rw [← zipIdx_enc]
    exact yields_enum (src_tup g1 g3)
theorem ei_enumL {α : Type} {enc : α → Dt} {ys : List α} (h : EvA ta r m [.ref a]) (hm : m a = some (.lst (ys.map enc))) : EvI true (iEnB true K ta) r m (ys.zipIdx.map fun p => .tup [.int (p.2 : Nat), enc p.1]) (fun m' => m' a = some (.lst (ys.map enc))) := fun fr s H S R q => h fr s H S _ fun vs H1 S1 t1 r1 => by
  cases r1 with
  | cons r1 r2 =>
    cases r2
    cases r1
    obtain ⟨xs, g1, g3⟩ := S1.mst.mem a _ hm
    refine ⟨a, xs, rfl, SqL.of g1, q _ fr H1 (fun _ _ e => e) S1 t1 ?_⟩
    rw [← zipIdx_enc]
    exact yields_enum (src_lst fun m h => h)
theorem ei_zipTT {α β : Type} {enc : α → Dt} {enc' : β → Dt} {xs : List α} {ys : List β} (h : EvA ta r m [.tup (xs.map enc), .tup (ys.map enc')]) : EvI true (iZB false false K ta) r m ((xs.zip ys).map fun p => .tup [enc p.1, enc' p.2]) (fun _ => True) := fun fr s H S R q => h fr s H S _ fun vs H1 S1 t1 r1 => by
  cases r1 with
  | cons r1 r2 =>
    cases r2 with
    | cons r2 r3 =>
      cases r3
      obtain ⟨a, o, us, rfl, g1, g2, g3⟩ := tup_of r1
      obtain ⟨a', o', ws, rfl, k1, k2, k3⟩ := tup_of r2
      refine ⟨a, a', us, ws, rfl, sqt_of g1, sqt_of k1, q _ fr H1 (fun _ _ e => e) S1 t1 ?_⟩
      rw [← zip_enc]
      exact yields_zip (src_tup g1 g3) (src_tup k1 k3)
theorem ei_zipTL {α β : Type} {enc : α → Dt} {enc' : β → Dt} {xs : List α} {ys : List β} (h : EvA ta r m [.tup (xs.map enc), .ref a']) (hm : m a' = some (.lst (ys.map enc'))) : EvI true (iZB false true K ta) r m ((xs.zip ys).map fun p => .tup [enc p.1, enc' p.2]) (fun m' => m' a' = some (.lst (ys.map enc'))) := fun fr s H S R q => h fr s H S _ fun vs H1 S1 t1 r1 => by
  cases r1 with
  | cons r1 r2 =>
    cases r2 with
    | cons r2 r3 =>
      cases r3
      cases r2
      obtain ⟨a, o, us, rfl, g1, g2, g3⟩ := tup_of r1
      obtain ⟨ws, k1, k3⟩ := S1.mst.mem a' _ hm
      refine ⟨a, a', us, ws, rfl, sqt_of g1, SqL.of k1, q _ fr H1 (fun _ _ e => e) S1 t1 ?_⟩
      rw [← zip_enc]
      exact yields_zip (src_tup g1 g3) (src_lst fun m h => h)
theorem ei_zipLT {α β : Type} {enc : α → Dt} {enc' : β → Dt} {xs : List α} {ys : List β} (h : EvA ta r m [.ref a, .tup (ys.map enc')]) (hm : m a = some (.lst (xs.map enc))) : EvI true (iZB true false K ta) r m ((xs.zip ys).map fun p => .tup [enc p.1, enc' p.2]) (fun m' => m' a = some (.lst (xs.map enc))) := fun fr s H S R q => h fr s H S _ fun vs H1 S1 t1 r1 => by
  cases r1 with
  | cons r1 r2 =>
    cases r2 with
    | cons r2 r3 =>
      cases r3
      cases r1
      obtain ⟨a', o, us, rfl, g1, g2, g3⟩ := tup_of r2
      obtain ⟨ws, k1, k3⟩ := S1.mst.mem a _ hm
      refine ⟨a, a', ws, us, rfl, SqL.of k1, sqt_of g1, q _ fr H1 (fun _ _ e => e) S1 t1 ?_⟩
      rw [← zip_enc]
      exact yields_zip (src_lst fun m h => h) (src_tup g1 g3)
end

/-! ### extend by a tuple -/
def rExtendT : V → List V → Hp → VK → Prop := fun x vs H Q => ∃ l b o xs zs, x = .ref l ∧ vs = [.ref b] ∧ H l = some (.lst xs) ∧ H b = some (.frz o (.tup zs)) ∧ PlO o ∧ xs.length + zs.length ≤ sizeLine ∧ Q .non (upd H l (.lst (xs ++ zs)))
theorem mt_extendT {X : Cx} : MtM X "list.extend" rExtendT := by
  intro pins s σ H x vs v us Q I rx rv h
  obtain ⟨l, b, o, xs, zs, rfl, rfl, hH, hB, hpl, hz, q⟩ := h
  cases rx
  obtain ⟨u, rfl, ru⟩ := rv.one
  cases ru
  obtain ⟨z, its, n, r, hl, e⟩ := I.lstM hH
  obtain ⟨g1, z2, its2, r2, ⟨o2, g2, hc, n2, hd⟩⟩ := I.hok b _ hB
  rw [g1] at g2
  cases g2
  obtain ⟨oc, od, odat, osl⟩ := o
  obtain ⟨p1, p2⟩ := hpl
  simp only at hc hd p1 p2
  subst hc; subst hd; subst p1; subst p2
  have hl2 := r2.length
  have hl1 := r.length
  have hsz : its.toArray.size + its2.toArray.size ≤ sizeLine := by rw [List.size_toArray, List.size_toArray]; omega
  have hlong : ¬ (!its.toArray.isEmpty && Builtin.List.listTooLong (its.toArray.size + its2.toArray.size)) = true := by
    rw [notLongL hsz, Bool.and_false]
    exact Bool.false_ne_true
  refine call_meets F.slot_list_extend ⟨_, e, rfl⟩ F.entry_list_extend (F.args_list_extend_2 _ _)
    (AutoSeq1.list_extend_list_tuple_0 l its.toArray n b its2.toArray n2 hlong (by rw [List.size_toArray]; omega) (by omega)) ⟨e, g1, ?_⟩
  refine ⟨.non, _, I.lset (its' := its ++ its2) hH e (by simp) (r.append r2) ?_, rfl, q⟩
  rw [List.length_append]
  omega
theorem s_extT {K : PySem.W.Frag} {r : Ro} {m : Mp} {ta te : TE} {nx : Ro → Mp → Prop} {rt : Dt → Mp → Prop} {a : Addr} {ds es : List Dt} (ho : Ev ta r m (.ref a)) (hm : m a = some (.lst ds)) (h : Ev te r m (.tup es)) (hz : ds.length + es.length ≤ 100000) (k : nx r (mu m a (.lst (ds ++ es)))) : St (tDrop (tBM K "list" rExtendT ta (tCons te tNil))) nx rt r m := fun fr s H D S k1 k2 =>
  ho fr s H S _ fun v H1 S1 t1 r1 => by
    cases r1
    obtain ⟨xs, g1, g3⟩ := S1.mst.mem a _ hm
    refine ⟨.inl ⟨rfl, xs, SqL.of g1⟩, h fr s H1 S1 _ fun w H2 S2 t2 r2 => ?_⟩
    obtain ⟨b, o, zs, rfl, g6, gp, g7⟩ := tup_of r2
    obtain ⟨ys, g4, g5⟩ := S2.mst.mem a _ hm
    obtain ⟨S3, t3⟩ := mut_lst S2 hm g4 (g5.append g7)
    exact ⟨a, b, o, ys, zs, rfl, rfl, g4, g6, gp, by rw [g5.length, g7.length]; exact sz_of hz, k1 r _ s _ k S3 ((t1.trans t2).trans t3)⟩

/-! ### dict(a tuple of pairs) -/
def rDictT (K : PySem.W.Frag) : RC1 := fun xs H Q => ∃ (a : Addr) (o : Obj) (ps : List Addr) (kvs : List (Key × V)), xs = [.ref a] ∧ H a = some (.frz o (.tup (ps.map V.ref))) ∧ PlO o ∧ Paired (fun p kv => SqT K H p [kV kv.1, kv.2]) ps kvs ∧
    ∀ p, H p = none → Q (.ref p) (upd H p (.dK (mergeK [] kvs)))
theorem cr_dictT {X : Cx} (hcalm : X.calm = true) : CallR X (.type "dict") (rDictT X.K) := by
  intro pins s σ H xs us Q I r q
  obtain ⟨a, o, ps, kvs, ex, hq, hpl, hp, q⟩ := q
  subst ex
  obtain ⟨u, eu, rx⟩ := vals1 r
  subst eu
  cases rx
  obtain ⟨g1, hz, its, rv, ⟨o2, g2, hc, n2, hd⟩⟩ := I.hok a _ hq
  rw [g1] at g2
  cases g2
  have ei := refs_at rv
  subst ei
  rw [List.length_map] at hz
  obtain ⟨prs, rel, hl, hpr⟩ := pairs_of I hp
  have ex : ∀ j : Nat, ∃ u : Value, ∀ q' : Key × Value, prs[j]? = some q' → ∃ b : Addr, ps[j]? = some b ∧ IsTup s.heap b #[u, q'.2] ∧ keyIs q'.1 u = true := fun j => by
    cases e : prs[j]? with
    | none => exact ⟨.none, fun q' z => nomatch z⟩
    | some q' =>
      obtain ⟨b, u, e1, e2, e3⟩ := hpr j q' e
      exact ⟨u, fun q'' z => by cases z; exact ⟨b, e1, e2, e3⟩⟩
  have lp : ps.length = prs.length := hl.symm ▸ rfl
  obtain ⟨U, hU⟩ := Classical.axiomOfChoice ex
  have pv : ∀ j k v, (prs.mapIdx fun j q => (U j, q.2))[j]? = some (k, v) → ∃ q', prs[j]? = some q' ∧ k = U j ∧ v = q'.2 := fun j k v e => by
    rw [List.getElem?_mapIdx] at e
    cases e' : prs[j]? with
    | none => rw [e'] at e; cases e
    | some q' =>
      rw [e'] at e
      simp only [Option.map_some, Option.some.injEq, Prod.mk.injEq] at e
      exact ⟨q', rfl, e.1.symm, e.2.symm⟩
  refine PySem.call_dict_pairs (knd := mixKind X.prog X.w) (kvs := prs) (PairArg.tuple a (ps.map Value.ref).toArray (fun j => ps.getD j 0) (prs.mapIdx fun j q => (U j, q.2))) (I.ok.hd hcalm) ⟨⟨o, n2, g1, hc, hpl.1, hd⟩, ?_, ?_⟩ ⟨?_, ?_⟩ ?_ fun h' tk hd' k => ?_
  · simp [lp]
  · intro j k v e
    obtain ⟨q', e1, rfl, rfl⟩ := pv j k v e
    obtain ⟨b, e2, e3, _⟩ := hU j q' e1
    have e4 : ps.getD j 0 = b := by rw [List.getD_eq_getElem?_getD, e2]; rfl
    refine ⟨?_, ?_⟩
    · show _ = some (Value.ref (ps.getD j 0))
      rw [e4]; simp [e2]
    · show PairAt _ (ps.getD j 0) _ _
      rw [e4]; exact .inl e3
  · simp
  · intro i key v e
    obtain ⟨q', e1, rfl, rfl⟩ := pv i key v e
    obtain ⟨b, e2, e3, e4⟩ := hU i q' e1
    exact ⟨q'.1, e1, e4⟩
  · simp only [List.length_mapIdx]; rw [← lp]; exact hz
  · have hm : (s.heap.objs.size == sysModules) = false := beq_eq_false_iff_ne.mpr (Nat.ne_of_gt I.big)
    have hlen : (mergeK [] kvs).length ≤ sizeLine := by
      refine Nat.le_trans (length_mergeK kvs []) ?_
      rw [List.length_nil, Nat.zero_add, rel.length, ← lp]
      exact hz
    exact ⟨.ref s.heap.objs.size, upd H s.heap.objs.size (.dK (mergeK [] kvs)), I.laid (t' := tk) (fun b o e => k b o (by simp) e) (Nat.le_refl _) (show ObjOk X.prog X.w _ _ _ (.dK (mergeK [] kvs)) from ⟨hlen, hm, merged [] prs, KV.merge rel .nil, hd'⟩), rfl, q _ (I.hok.fresh (Nat.le_refl _))⟩
def mergeD {κ α : Type} [DecidableEq κ] (kds more : List (κ × α)) : List (κ × α) := more.foldl (fun acc kv => putD acc kv.1 kv.2) kds
theorem RepKV.merge {H : Hp} : ∀ {more : List (Key × V)} {rs : List (Key × Dt)} {kvs : List (Key × V)} {vs : List (Key × Dt)}, RepKV H more rs → RepKV H kvs vs → RepKV H (mergeK kvs more) (mergeD vs rs)
  | _, _, _, _, .nil, h => h
  | (k, v) :: more, _, kvs, vs, .cons (d := d) (kds := rs) r t, h => by
    show RepKV H (mergeK (putK kvs k v) more) (mergeD (putD vs k d) rs)
    exact RepKV.merge t (h.put r)
theorem pairs_rep {K : PySem.W.Frag} {H : Hp} : ∀ {xs : List V} (kds : List (Key × Dt)), RepAll H xs (kds.map fun kd => Dt.tup [kD kd.1, kd.2]) → ∃ (ps : List Addr) (kvs : List (Key × V)), xs = ps.map V.ref ∧ Paired (fun p kv => SqT K H p [kV kv.1, kv.2]) ps kvs ∧ RepKV H kvs kds
  | _, [], h => by
    cases h
    exact ⟨[], [], rfl, .nil, .nil⟩
  | _, kd :: kds, h => by
    rw [List.map_cons] at h
    cases h with
    | cons h1 h2 =>
      obtain ⟨ps, kvs, rfl, hp, hr⟩ := pairs_rep kds h2
      obtain ⟨a, o, ys, rfl, g1, g2, g3⟩ := tup_of h1
      cases g3 with
      | cons k1 k2 =>
        cases k2 with
        | cons k2 k3 =>
          cases k3
          obtain rfl := rep_kD k1
          exact ⟨a :: ps, (kd.1, _) :: kvs, rfl, .cons (sqt_of g1) hp, .cons k2 hr⟩
theorem ca_dictT {K : PySem.W.Frag} {m : Mp} {kds : List (Key × Dt)} : CaN (rDictT K) [.tup (kds.map fun kd => Dt.tup [kD kd.1, kd.2])] m (.dic (mergeD [] kds)) := fun fr r s H vs S h Q q => by
  cases h with
  | cons h1 h2 =>
    cases h2
    obtain ⟨a, o, xs, rfl, g1, gp, g3⟩ := tup_of h1
    obtain ⟨ps, kvs, rfl, hp, hr⟩ := pairs_rep (K := K) kds g3
    exact ⟨a, o, ps, kvs, rfl, g1, gp, hp, fun p hn => q p _ (S.mst.free hn) (S.mst.freeF hn) (S.new hn ⟨_, upd_same, (RepKV.merge hr .nil).go (TupLe.new hn)⟩) (TupLe.new hn)⟩
def rDictP (K : PySem.W.Frag) : RC1 := fun xs H Q => ∃ (a : Addr) (ps : List Addr) (kvs : List (Key × V)), xs = [.ref a] ∧ SqL K H a (ps.map V.ref) ∧ Paired (fun p kv => SqT K H p [kV kv.1, kv.2]) ps kvs ∧
    ∀ p, H p = none → Q (.ref p) (upd H p (.dK (mergeK [] kvs)))
theorem cr_dictP {X : Cx} (hc : X.calm = true) : CallR X (.type "dict") (rDictP X.K) := call_dictP hc
theorem ca_dictP {K : PySem.W.Frag} {m : Mp} {a : Addr} {kds : List (Key × Dt)} (hm : m a = some (.lst (kds.map fun kd => Dt.tup [kD kd.1, kd.2]))) : CaN (rDictP K) [.ref a] m (.dic (mergeD [] kds)) := fun fr r s H vs S h Q q => by
  cases h with
  | cons h1 h2 =>
    cases h2
    cases h1
    obtain ⟨xs, g1, g3⟩ := S.mst.mem a _ hm
    obtain ⟨ps, kvs, rfl, hp, hr⟩ := pairs_rep (K := K) kds g3
    exact ⟨a, ps, kvs, rfl, SqL.of g1, hp, fun p hn => q p _ (S.mst.free hn) (S.mst.freeF hn) (S.new hn ⟨_, upd_same, (RepKV.merge hr .nil).go (TupLe.new hn)⟩) (TupLe.new hn)⟩
end TB
set_option Elab.async false
set_option linter.all false
set_option autoImplicit false
set_option maxRecDepth 100000
set_option maxHeartbeats 4000000
/-! TB: repr (the guards must be known), and the law's own def run from the caller. -/
namespace TB
open PySem PySem.Spec PyProof.Rows L2
section
variable {X : Cx}
theorem hu64_of {A : Around} {k : Nat} (hr : Room k A) : A.units + 64 < cLine := by have := hr.un; omega
theorem hu65_of {A : Around} {k : Nat} (hr : Room k A) : A.units + 65 < cLine := by have := hr.un; omega
def rReprT (K : PySem.W.Frag) : RC1 := fun xs H Q => ∃ (a : Addr) (d : PyData), xs = [.ref a] ∧ Dp K H (.ref a) d ∧ d.showable = true ∧ d.hasDict = false ∧ d.depth ≤ 50 ∧ d.shown.length ≤ sizeLine ∧ Q (.str d.shown) H
theorem cr_repr (hG : X.A.guards = some []) (hu : X.A.units + 64 < cLine) : CallR X (.builtin "repr") (rReprT X.K) := by
  intro pins s σ H xs us Q I r q
  obtain ⟨a, d, rfl, hd, h1, h2, h3, h4, q⟩ := q
  obtain ⟨u, rfl, rx⟩ := vals1 r
  cases rx
  obtain ⟨as, rd⟩ := Dp.reads I d (.ref a) (.ref a) hd rfl
  refine repr_of_reads' rd h1 (fun z => by rw [h2] at z; cases z) hG (by omega) (fun b o e => e) (fun h' u tk hk => ⟨.str d.shown, H, I.kept hk, ⟨u, rfl⟩, q⟩) h4
theorem ca_repr {K : PySem.W.Frag} {m : Mp} {ds : List Dt} (p : pures ds = true) (h1 : PyData.showable (.tuple (pys ds)) = true) (h2 : PyData.hasDict (.tuple (pys ds)) = false) (h3 : PyData.depth (.tuple (pys ds)) ≤ 50) (h4 : (PyData.shown (.tuple (pys ds))).length ≤ sizeLine) :
    Ca (rReprT K) [.tup ds] m (.str (PyData.shown (.tuple (pys ds)))) := fun fr r s H vs S h Q q => by
  cases h with
  | cons k1 k2 =>
    cases k2
    have hd := k1.dp (K := K) (.tup ds) _ (by rw [TB.pure]; exact p)
    rw [py] at hd
    obtain ⟨a, o, xs, rfl, g1, gp, g3⟩ := tup_of k1
    exact ⟨a, _, rfl, hd, h1, h2, h3, h4, q _ H S (TupLe.refl H) (.str _)⟩
end

section
variable {P : Program} {w : World} {K : PySem.W.Frag} {mg : Str → Option Value} {base : Heap}
/-- a def run within one surrounding A -/
def RunA (P : Program) (w : World) (K : PySem.W.Frag) (mg : Str → Option Value) (base : Heap) (A : Around) (f : Addr) (fd : FuncData) (ps : List Str) (sp : Sp) : Prop :=
  ∀ (outer : List Env) (s : Shared) (H : Hp) (args : Args) (us : List Value) (vs : List V) (Q : VK) (E : XK), Env0 P w K mg base A outer s H → BindsTo s fd args (ps.zip us) → Vals vs us → sp vs H Q E →
    codeAny (model P w) A (.call (.ref f) args) (CR CX0 outer P w H s Q E) s
theorem run_tb {A : Around} {k : Nat} {ι : Type} {ds : ι → List Dt} {pre : ι → Mp → Prop} {post : ι → Mp → Dt → Mp → Prop} {x qual : Str} {st : Stmt} {f : Addr} {fd : FuncData} {N ps : List Str} (hr : Room (k + 1) A) (F : Fun K x qual st f fd) (Sc : FnScope N ps (defScope st))
    (len : ∀ i, (ds i).length = ps.length)
    (hbody : ∀ (cdv : Value) (outer : List Env) (s : Shared) (H : Hp) (E : XK), Room k (A.deeper (envOfC qual (defScope st) s.heap.objs.size f cdv)) →
      ∃ t, PSs (cxOf CX0 P w K mg base N qual (defScope st) f cdv A outer s H E).nox (defBody st) t ∧ ∀ i m, pre i m → St t (fun _ => Wk (post i m .non)) (fun d => Wk (post i m d)) (startD N (ds i)) m) :
    RunA P w K mg base A f fd ps (spOf ds pre post) := by
  obtain ⟨oc, od, kV, doc, pm, an, cdv, ct, osl, rfl, lk, hcd⟩ := F.ex
  intro outer s H args us vs Q E e0 hb r hsp
  obtain ⟨fr, i, m, hm, hv, hp, q⟩ := hsp
  have hl : vs.length = ps.length := by rw [hv.length, len]
  have KX : K.In s.heap := e0.mod.kin.keeps fun b o e => (e0.bs b o e).1
  have lim : s.heap.NoLimit := e0.mod.nolimit.keeps fun b o e => (e0.bs b o e).1
  have hkind : ∀ y ∈ ps.zip us, (defScope st).names.lookup y.1 = some .local ∨ ((defScope st).names.lookup y.1 = some .cell ∧ ((cellsFrom (s.heap.objs.size + 1) (defScope st).names []).lookup y.1).isSome = true) := fun ⟨n, v⟩ hy => by
    rcases Sc.par n (List.of_mem_zip hy).1 with q | q
    · exact .inl q
    · exact .inr ⟨q, PySem.W.cellsFrom_some _ _ _ (.inl q)⟩
  refine codeAny_call_function hr.depth (KX _ _ lk) rfl Sc.co Sc.gen rfl (PySem.W.codeRec_of KX hcd) (hb _ _ _ _ ?_)
  refine wpAny_newFunctionEnv_cells Sc.kind hkind fun env he s1 x => ?_
  subst he
  refine ⟨lim.keeps x.toInCall.keep, codeAny_func ?_⟩
  obtain ⟨t, ht, hst⟩ := hbody cdv outer s H E (hr.deeper _)
  have I : Inv (cxOf CX0 P w K mg base N qual (defScope st) f cdv A outer s H E) [] (start N vs) H s1 := inv_start Sc hr.hd e0 hl r x
  have hq : t { nx := fun _ H' => Q .non H', rt := Q } (start N vs) H := by
    refine hst i m hp fr _ H _ ⟨hm, ?_, fun j d e => ?_⟩ (fun r' m' s' H' hn S' t' => let ⟨m5, l5, w5⟩ := hn; q .non m5 .non H' w5 (S'.mst.less l5) t' .non) fun d m' v H' hr' S' t' rv => let ⟨m5, l5, w5⟩ := hr'; q d m5 v H' w5 (S'.less l5) t' rv
    · unfold startD L2.start
      rw [List.length_append, List.length_append, List.length_map, List.length_map, hv.length, List.length_replicate, List.length_replicate]
    · unfold startD at e
      unfold L2.start
      rw [hv.length]
      exact slot_start hv _ j d e
  refine wpAny_mono (ht.nox.run [] s1 (start N vs) H _ I hq) (fun fl s' hs => ?_) fun e s' hs => hs
  have fin : ∀ {σ' : L2.St} {H' : Hp} {v : V} {u : Value}, Inv (cxOf CX0 P w K mg base N qual (defScope st) f cdv A outer s H E) [] σ' H' s' → RelV v u → Q v H' → CE outer P w H s Q u s' :=
    fun {σ' H' v u} J rv q => ⟨v, H', J.os, J.bare, J.base, J.hok, rv, q⟩
  cases fl with
  | ret u =>
    obtain ⟨v, σ', H', J, rv, q⟩ := hs
    exact fin J rv q
  | next =>
    obtain ⟨σ', H', J, q⟩ := hs
    exact fin (v := V.non) (u := Value.none) J rfl q
  | brk =>
    obtain ⟨_, _, _, q⟩ := hs
    exact False.elim q
  | cont =>
    obtain ⟨_, _, _, q⟩ := hs
    exact False.elim q
/-- the law's call, from the caller -/
theorem law_callT {mb : Str → Option Value} {fa a : Addr} {fd : FuncData} {x : Str} {sp : Sp} {s₁ : Shared} {vs : List Value} {ns : List Int}
    (KX : K.In s₁.heap) (hns : s₁.heap.Ns mainGlobals mg) (hb : s₁.heap.Ns builtinsNs mb) (hbb : ∀ x : Str, x ≠ "__name__" → mb x = bootBuiltins x) (hlim : s₁.heap.NoLimit) (hg : s₁.gens = #[])
    (ha : s₁.heap.get? a = some { cls := .type "list", data := .seq vs.toArray }) (hi : IntsAre vs ns) (hl : ns.length ≤ sizeLine)
    (F : ∀ base : Heap, K.In base → base.Ns mainGlobals mg → RunA P w K mg base callerA fa fd [x] sp) (hbind : ∀ (s : Shared) (u : Value), BindsTo s fd ⟨[u], []⟩ [(x, u)])
    (hsp : ∀ H : Hp, Only H → SqL K H a (ns.map V.int) → sp [.ref a] H (fun v _ => v = .bl true) fun _ _ _ => False) :
    codeAny (model P w) callerA (.call (.ref fa) ⟨[.ref a], []⟩) (fun r s' => r = .ok (.ret (.bool true)) ∧ OldK s₁.heap s'.heap ∧ s'.os = s₁.os ∧ AllBare s'.gens) s₁ := by
  have rv := vals_ints hi
  have lenV := hi.length
  have core : ∀ H : Hp, Only H → SqL K H a (ns.map V.int) → HOk P w H s₁.heap → (∀ b, H b ≠ none → b = a) → (H a ≠ none → K.lookup a = none) →
      codeAny (model P w) callerA (.call (.ref fa) ⟨[.ref a], []⟩) (fun r s' => r = .ok (.ret (.bool true)) ∧ OldK s₁.heap s'.heap ∧ s'.os = s₁.os ∧ AllBare s'.gens) s₁ := by
    intro H hO hS hok hA hK
    have base_of : ∀ {b : Addr} {o : Obj}, s₁.heap.get? b = some o → H b = none → (hidT s₁.heap H).get? b = some o := fun e n => hidT_get e n
    have noA : ∀ {b : Addr} {o : Obj} {es : Array DictEntry} {ep : Nat}, s₁.heap.get? b = some o → o.data = .dict es ep → H b = none := fun {b o es ep} e d => by
      cases q : H b with
      | none => rfl
      | some u =>
        have e' : b = a := hA b (by rw [q]; simp)
        subst e'
        rw [ha] at e; cases e
        have d' : Data.seq vs.toArray _ = Data.dict es ep := d
        cases d'
    have nsK : ∀ {b : Addr} {m : Str → Option Value}, s₁.heap.Ns b m → (hidT s₁.heap H).Ns b m := fun {b m} ⟨o, es, ep, e, d, r⟩ => ⟨o, es, ep, base_of e (noA e d), d, r⟩
    have hKb : K.In (hidT s₁.heap H) := fun b o e => base_of (KX b o e) (by
      cases q : H b with
      | none => rfl
      | some u =>
        have e' : b = a := hA b (by rw [q]; simp)
        subst e'
        rw [hK (by rw [q]; simp)] at e; cases e)
    have hM : Mod K mg (hidT s₁.heap H) := ⟨hKb, nsK hns, ⟨mb, nsK hb, hbb⟩, let ⟨mc, h1, h2⟩ := hlim; ⟨mc, nsK h1, h2⟩⟩
    have e0 : Env0 P w K mg (hidT s₁.heap H) callerA [] s₁ H := ⟨rfl, hM, fun b o e => of_hidT e, Nat.le_of_eq (hidT_size _ _), trivial, fun b hb => absurd (show b ∈ ([] : List Addr) from hb) (by simp), hok, .of_eq hg⟩
    refine codeAny_mono (F _ hKb (nsK hns) [] s₁ H ⟨[.ref a], []⟩ [.ref a] [.ref a] _ _ e0 (hbind s₁ (.ref a)) (.cons rfl .nil) (hsp H hO hS)) fun r s' h => ?_
    cases r with
    | error e => exact False.elim h
    | ok fl =>
      cases fl with
      | next => exact False.elim h
      | brk => exact False.elim h
      | cont => exact False.elim h
      | ret u =>
        obtain ⟨v, H', os, bare, un, hok', r', q⟩ := h
        have q' : v = .bl true := q
        subst q'
        obtain rfl : u = Value.bool true := r'
        refine ⟨rfl, OldK.of_keep fun b o e => ?_, os, bare⟩
        cases q : H b with
        | none => exact un.keep b o e q (by intro z; exact absurd (show b ∈ ([] : List Addr) from z) (by simp)) (by simp)
        | some u =>
          rcases hO b with z | ⟨ob, xs, z⟩
          · rw [q] at z; cases z
          · have z2 := un.frzs b ob _ z
            obtain ⟨e1, _⟩ := hok b _ z
            obtain ⟨e2, _⟩ := hok' b _ z2
            rw [e] at e1; cases e1
            exact e2
  cases hk : K.lookup a with
  | some o =>
    have e := KX a o hk
    rw [ha] at e
    cases e
    refine core (fun _ => none) (fun _ => .inl rfl) (.inr ⟨_, vs.toArray, _, hk, rfl, rfl, rfl, by rw [List.size_toArray, lenV]; exact hl, by simpa using rv⟩) (fun b u z => by have z' : (none : Option HO) = some u := z; cases z') (fun b z => absurd rfl z) fun z => absurd rfl z
  | none =>
    refine core (fun b => if b = a then some (.frz { cls := .type "list", data := .seq vs.toArray } (.lst (ns.map V.int))) else none) (fun b => ?_) (.inl (.inr ⟨{ cls := .type "list", data := .seq vs.toArray }, if_pos rfl⟩)) (fun b u z => ?_) (fun b z => ?_) fun _ => hk
    · by_cases hb : b = a
      · exact .inr ⟨_, _, if_pos hb⟩
      · exact .inl (if_neg hb)
    · by_cases hb : b = a
      · have z' := (if_pos hb).symm.trans z
        cases z'
        subst hb
        exact ⟨ha, by rw [List.length_map]; exact hl, vs, _, rv, ha⟩
      · have z' := (if_neg hb).symm.trans z
        cases z'
    · by_cases hb : b = a
      · exact hb
      · exact absurd (if_neg hb) z
theorem walk_tb {l : PySem.W.OpenLaw} {n : Nat} {q : Program} {loose : List Str} {XP : (Str → Option Value) → Heap → Prop} {YP : World → Heap → Prop} {d : DefRec} {K : Params → PySem.W.Frag} {sp : World → Sp} {x : Str}
    (hn : l.most = some n) (hn2 : n ≤ sizeLine) (hdf : d.params.defaults = [])
    (hY : ∀ (w : World) (h : Heap), YP w h → (K w.params).In h)
    (F : ∀ (w : World) (mg : Str → Option Value) (fa : Addr) (h : Heap), (K w.params).In h → h.Ns mainGlobals mg → mg d.name = some (.ref fa) →
      ∃ fd : FuncData, (∀ (s : Shared) (u : Value), BindsTo s fd ⟨[u], []⟩ [(x, u)]) ∧
        ∀ base : Heap, (K w.params).In base → base.Ns mainGlobals mg → RunA l.prog w (K w.params) mg base callerA fa fd [x] (sp w))
    (hsp : ∀ (w : World) (H : Hp) (a : Addr) (ns : List Int), ns.length ≤ n → Only H → SqL (K w.params) H a (ns.map V.int) → sp w [.ref a] H (fun v _ => v = .bl true) fun _ _ _ => False) :
    PySem.W.WalkO q loose XP YP l.row.toRowW d [] (fun f vs => PySem.call f vs) := by
  refine Att.attach_call hn hdf fun w s₀ s₁ mg mb fa o pm cd doc a vs ns G Y ho hd hcd hmg hobj hints hlen hg => ?_
  have KX := hY w _ Y
  obtain ⟨fd, hb, hF⟩ := F w mg fa _ KX G.T.g hmg
  exact law_callT KX G.T.g G.T.b G.T.builtins G.T.nolimit hg hobj hints (Nat.le_trans hlen hn2) hF hb (fun H hO hS => hsp w H a ns hlen hO hS)
end

/-! ### defs of the module, called by name -/
structure Fn (P : Program) (w : World) (K : PySem.W.Frag) (mg : Str → Option Value) (base : Heap) (k : Nat) (x : Str) (sp : Sp) : Prop where
  ex : ∃ (f : Addr) (fd : FuncData) (ps : List Str), FnOk P w K mg base CX0 k f fd ps sp ∧ mg x = some (.ref f) ∧ PySem.W.keepIn K (.ref f) = true ∧ Binds K fd ps []
/-- what is known of a def's object -/
structure At (K : PySem.W.Frag) (mg : Str → Option Value) (x : Str) (st : Stmt) (ps : List Str) : Prop where
  ex : ∃ (f : Addr) (fd : FuncData), Fun K x x st f fd ∧ mg x = some (.ref f) ∧ Binds K fd ps []
section
variable {X : Cx} {k j : Nat} {x : Str} {sp : Sp} {p pos : Pos} {e : Expr} {es : List Expr} {t : TA}
theorem pe_fn (c : Fn X.prog X.w X.K X.mg X.base k x sp) (hr : Room j X.A) (hk : k ≤ j) (hg : Gl X x) (ha : PA X (e :: es) t)
    (hdb : (x == ("__debug__" : Str)) = false := by decide) (he : starEach (e :: es) X.env = (false, eval e X.env) :: starEach es X.env := by rfl) (hpl : (backTo pos (starEach es X.env)).any (·.1) = false := by rfl) :
    PE X (.Call (.Name x p) (e :: es) [] pos) (tCall sp [] E0 t) := by
  obtain ⟨f, fd, ps, F, hm, kp, b⟩ := c.ex
  exact pe_call F (hr.mono hk) hg hm kp b .nil pass0 ha hdb he hpl
theorem fn_at {P : Program} {w : World} {K : PySem.W.Frag} {mg : Str → Option Value} {base : Heap} {ι : Type} {ds : ι → List Dt} {pre : ι → Mp → Prop} {post : ι → Mp → Dt → Mp → Prop} {st : Stmt} {N ps : List Str} {k : Nat} (A : At K mg x st ps) (Sc : FnScope N ps (defScope st))
    (len : ∀ i, (ds i).length = ps.length)
    (hbody : ∀ (f : Addr) (cdv : Value) (A : Around) (outer : List Env) (s : Shared) (H : Hp) (E : XK), Room k (A.deeper (envOfC x (defScope st) s.heap.objs.size f cdv)) →
      ∃ t, PSs (cxOf CX0 P w K mg base N x (defScope st) f cdv A outer s H E).nox (defBody st) t ∧ ∀ i m, pre i m → St t (fun _ => Wk (post i m .non)) (fun d => Wk (post i m d)) (startD N (ds i)) m) :
    Fn P w K mg base (k + 1) x (spOf ds pre post) := by
  obtain ⟨f, fd, F, hm, b⟩ := A.ex
  exact ⟨f, fd, ps, fn_tb F Sc len (hbody f), hm, F.kp, b⟩
end
end TB
set_option Elab.async false
set_option linter.all false
set_option autoImplicit false
set_option maxRecDepth 100000
set_option maxHeartbeats 4000000
/-! TB, more rules of expressions: len(set(distinct texts)), dict(a tuple of pairs), list(range) down, enumerate of a tuple, zip of any two. -/
namespace TB
open PySem PySem.Spec PyProof.Rows

section
variable {prog : Program} {w : World} {A : Around} {R : Result → Shared → Prop} {I : Addr} {fp wr : List Addr} {G : Array GenState → Array GenState → Prop} {n : Nat} {P : Nat → Value → Prop} {St : Nat → Shared → Prop}
theorem loop_nd (W : WalksS prog w A.in1 I fp wr G n P St) (S : Addr) (hSf : S ∉ fp) (xs : List Str) (hsz : xs.length = n) (hb : n + 1 < scanBound) (nd : xs.Nodup)
    (hval : ∀ i v, P i v → ∃ t, v = .str (xs.getD i Str.empty) t) :
    ∀ (k i : Nat) (s : Shared), n - i = k → i ≤ n → St i s →
      s.heap.SetOf (PySem.strKind prog w) S (fun k' => (xs.take i).any (· == k')) i →
      (∀ s', Moved (S :: wr) G s s' → s'.heap.SetOf (PySem.strKind prog w) S (fun k' => (xs.take n).any (· == k')) n → R (.ok (.ret .none)) s') →
      codeAny (model prog w) A (.builtin "set.update.loop" ⟨[.ref S, .ref I], []⟩) R s := by
  have hSw : S ∉ wr := fun h => hSf (W.sub _ h)
  have hsub : ∀ b ∈ wr, b ∈ S :: wr := fun b hb => List.mem_cons_of_mem _ hb
  intro k
  induction k with
  | zero =>
    intro i s hk hi hst hS hR
    have hin : i = n := by omega
    subst hin
    refine codeAny_builtin PyProof.Rows.F.entry_set_update_loop ?_
    rw [Around.under_plainId PyProof.Rows.F.plain_set_update_loop _]
    show wpAny _ A.in1 (pyNext (.ref I) >>= _) _ _ s
    refine wpAny_bind (W.done s _ _ hst fun s' hm => ?_)
    show wpAny _ A.in1 (ret Value.none) _ _ s'
    exact wpAny_pure (hR s' (hm.mono hsub) (by
      obtain ⟨o, es, ep, t, ho, rest⟩ := hS
      exact ⟨o, es, ep, t, hm.heap S _ hSw ho, rest⟩))
  | succ k ih =>
    intro i s hk hi hst hS hR
    have hlt : i < n := by omega
    refine codeAny_builtin PyProof.Rows.F.entry_set_update_loop ?_
    rw [Around.under_plainId PyProof.Rows.F.plain_set_update_loop _]
    show wpAny _ A.in1 (pyNext (.ref I) >>= _) _ _ s
    refine wpAny_bind (W.item i s _ _ hlt hst fun v s' hP hst' hm => ?_)
    obtain ⟨t, rfl⟩ := hval i v hP
    have hS' : s'.heap.SetOf (PySem.strKind prog w) S (fun k' => (xs.take i).any (· == k')) i := by
      obtain ⟨o, es, ep, tb, ho, rest⟩ := hS
      exact ⟨o, es, ep, tb, hm.heap S _ hSw ho, rest⟩
    show wpAny _ A.in1 (holding [Value.str (xs.getD i Str.empty) t] (setAdd S (.str (xs.getD i Str.empty) t)) >>= _) _ _ s'
    refine wpAny_bind (wpAny_holding ?_)
    unfold setAdd
    refine wpAny_holding ?_
    refine wpAny_bind ((PySem.strKind prog w).pyHash (k := xs.getD i Str.empty) (strKind_is _ _ _ _) ?_)
    refine wpAny_setAddHashed_of (knd := PySem.strKind prog w) (s := { s' with toks := s'.toks + 1 }) (strKind_is _ _ _ _) rfl hS' (by omega) fun h' hsb hS2 => ?_
    have hSi : h'.SetOf (PySem.strKind prog w) S (fun k' => (xs.take (i + 1)).any (· == k')) (i + 1) := by
      have hxi : i < xs.length := by omega
      have e0 : xs.getD i Str.empty = xs[i] := by rw [List.getD_eq_getElem?_getD, List.getElem?_eq_getElem hxi]; rfl
      have et : xs.take (i + 1) = xs.take i ++ [xs[i]] := by rw [List.take_add_one, List.getElem?_eq_getElem hxi]; rfl
      have ni : ((xs.take i).any (· == xs[i])) = false := by
        rw [← Bool.not_eq_true]
        intro hc
        obtain ⟨y, hy, ey⟩ := List.any_eq_true.mp hc
        have ey2 : y = xs[i] := eq_of_beq ey
        rw [ey2] at hy
        obtain ⟨k2, hk2, ek⟩ := List.mem_take_iff_getElem.mp hy
        have := (List.getElem_inj nd).mp ek
        omega
      rw [e0] at hS2
      refine SetOf_congr hS2 (fun k' => ?_) (by rw [ni]; rfl)
      rw [et, List.any_append]
      simp only [List.any_cons, List.any_nil, Bool.or_false]
      congr 1
      by_cases e : k' = xs[i]
      · subst e; simp
      · have hb : (xs[i] == k') = false := by simpa [beq_iff_eq] using (fun h' : xs[i] = k' => e h'.symm)
        simp [hb, e]
    refine wpAny_pure ⟨plainId_quiet PyProof.Rows.F.plain_set_update_loop _, ih (i + 1) _ (by omega) hlt (W.frame _ s' _ _ hst' (Nat.le_succ _) fun b hb o e => ?_) hSi fun s'' hm'' hS'' => ?_⟩
    · rw [hsb.2 b (fun h : b = S => hSf (by rw [← h]; exact hb))]; exact e
    · refine hR s'' (Moved.trans W.gtrans ((hm.mono hsub).then_heap (Nat.le_succ _) fun b o hb e => ?_) hm'') hS''
      rw [hsb.2 b (fun h : b = S => hb (by rw [h]; exact List.mem_cons_self))]; exact e
end
section
variable {prog : Program} {w : World} {A : Around} {E : Value → Shared → Prop} {s : Shared}
open SS
set_option maxHeartbeats 3200000 in
theorem call_set_nd {l : Addr} {items : Array Value} {xs : List Str} {Q : Value → Shared → Prop}
    (hh : A.handled = none) (hl : s.heap.IsList l items) (hi : PyProof.Rows.StrsAre items.toList xs) (hb : xs.length + 1 < scanBound) (nd : xs.Nodup)
    (h : ∀ (h' : Heap) (tk : Nat), h'.SetOf (PySem.strKind prog w) s.heap.objs.size (fun k' => (xs.take items.size).any (· == k')) items.size →
      (∀ b o, b < s.heap.objs.size → s.heap.get? b = some o → h'.get? b = some o) → Q (.ref s.heap.objs.size) { s with heap := h', toks := tk }) :
    wpAny (model prog w) A (call (.type "set") [.ref l]) Q E s := by
  obtain ⟨c, tl, hmro⟩ := PySem.F.called_set.mro
  have hmade := PySem.F.called_set.made
  have hsub := PySem.F.called_set.sub
  refine wpAny_call (codeAny_of_tree ?_)
  show wpAny _ _ (callAny (.type "set") _) _ _ _
  refine wpAny_pure ⟨Code.quiet_builtin _ (by decide +kernel), codeAny_builtin PySem.F.entry_type_call ?_⟩
  rw [Around.under_plain (weight_type_call_type "set" [.ref l] []) rfl]
  have h1 := PySem.F.called_set.notType
  have h2 := PySem.F.called_set.canCreate
  have hct := PySem.F.typeCall_set_1 (.ref l)
  repeat (any_goals (first | assumption | wp_step))

  refine codeAny_mono (code_set_new_1 (.ref l) (E := E) (Q₁ := fun obj s₁ => ∃ led : Bool, obj = .ref s.heap.objs.size ∧ s₁ = { s with heap := s.heap.push { cls := .type "set", dict := none, data := .set #[] 0 (.fresh 0 0 led) } }) fun led => ⟨led, rfl, rfl⟩) fun r s₁ hr => ?_
  cases r with
  | error e => exact hr
  | ok fl =>
    cases fl with
    | ret obj =>
      obtain ⟨led, rfl, rfl⟩ := hr
      have hS : (s.heap.push { cls := .type "set", dict := none, data := .set #[] 0 (.fresh 0 0 led) }).get? s.heap.objs.size = some { cls := .type "set", dict := none, data := .set #[] 0 (.fresh 0 0 led) } := Heap.get?_push_size _ rfl
      have hT : Shared.TypeIs { s with heap := s.heap.push { cls := .type "set", dict := none, data := .set #[] 0 (.fresh 0 0 led) } } (.ref s.heap.objs.size) "set" := ⟨_, hS, rfl⟩
      have hli := PySem.F.called_set.init.lookup
      have hbi := PySem.F.called_set.init.bind (.ref s.heap.objs.size)
      repeat (any_goals (first | assumption | wp_step))

      refine codeAny_mono (codeAny_call_builtin (R := wants (fun r s₂ => r = .none ∧ ∃ h' tk, s₂ = { s with heap := h', toks := tk } ∧
          h'.SetOf (PySem.strKind prog w) s.heap.objs.size (fun k' => (xs.take items.size).any (· == k')) items.size ∧
          (∀ b o, b < s.heap.objs.size → s.heap.get? b = some o → h'.get? b = some o)) E) PySem.F.called_set.init.plain PySem.F.entry_set_init (check_set_init_1 hT ?_)) fun r₂ s₂ hr₂ => ?_
      · obtain ⟨ol, hol, hcl, nl, hdl⟩ := hl
        obtain ⟨ocls, odict, odata, oslots⟩ := ol
        simp only at hcl hdl
        subst hcl; subst hdl
        have hol' : (s.heap.push { cls := .type "set", dict := none, data := .set #[] 0 (.fresh 0 0 led) }).get? l = some { cls := .type "list", dict := odict, data := .seq items nl, slots := oslots } := Heap.get?_push_of_some _ hol
        have hsls := PySem.F.sub_list_set
        have hslf := PySem.F.sub_list_frozenset
        have hne : (Value.type "list" == Value.type "dict") = false := by decide
        have hl1 : (s.heap.push { cls := .type "set", dict := none, data := .set #[] 0 (.fresh 0 0 led) }).IsList l items := ⟨_, hol', rfl, nl, rfl⟩
        unfold Builtin.«set.__init__» noKeywords Builtin.Frozenset.updateFrom
        generalize hPI : pyIter = PI
        wp_walk
        subst hPI

        refine wpAny_pyIter_list hl1 ?_
        refine wpAny_bind (wpAny_runValue ?_)
        have hlS : l < s.heap.objs.size := Heap.lt_size hol
        have hh3 : A.in1.in1.in1.handled = none := by simp [hh]
        have hneI : l ≠ (s.heap.push { cls := .type "set", dict := none, data := .set #[] 0 (.fresh 0 0 led) }).objs.size := by
          rw [Heap.size_push]; exact Nat.ne_of_lt (Nat.lt_succ_of_lt hlS)
        have hSf : s.heap.objs.size ∉ [(s.heap.push { cls := .type "set", dict := none, data := .set #[] 0 (.fresh 0 0 led) }).objs.size, l] := by
          rw [Heap.size_push]; simp only [List.mem_cons, List.mem_singleton, List.not_mem_nil, or_false, not_or]
          exact ⟨Nat.ne_of_lt (Nat.lt_succ_self _), Nat.ne_of_gt hlS⟩
        have hsz : xs.length = items.size := by rw [← StrsAre.len_eq hi, Array.length_toList]
        have hval : ∀ (i : Nat) (v : Value), items[i]? = some v → ∃ t, v = .str (xs.getD i Str.empty) t := fun i v hv => strs_at hi i v (by rw [Array.getElem?_toList]; exact hv)
        refine loop_nd ((Walks.list hh3 _ l hneI items).toS) s.heap.objs.size
          hSf xs hsz (by rw [← hsz]; exact hb) nd hval (items.size - 0) 0 _ (by omega) (Nat.zero_le _)
          ⟨⟨_, Heap.get?_push_size _ rfl, rfl, rfl⟩, (hl1.push _)⟩ ?hS0 ?hR
        case hS0 =>
          have hget : ((s.heap.push { cls := .type "set", dict := none, data := .set #[] 0 (.fresh 0 0 led) }).push { cls := .type "list_iterator", data := .fields #[.ref l, .int 0 0] }).get? s.heap.objs.size
              = some { cls := .type "set", dict := none, data := .set #[] 0 (.fresh 0 0 led) } := Heap.get?_push_of_some _ hS
          exact PyProof.Rows.SetOf_congr ((PyProof.Rows.setObjOf_fresh (knd := PySem.strKind prog w) led).setOf hget (by unfold scanBound; omega)) (fun _ => rfl) rfl
        case hR =>
          intro s' hm hS'
          obtain ⟨h', g', d', tk', os'⟩ := s'
          have eg : g' = s.gens := hm.gens
          have ed : d' = s.drawn := hm.drawn
          have eo : os' = s.os := hm.os
          subst eg; subst ed; subst eo
          show wpAny _ _ _ _ _ _
          refine wpAny_pure ?_
          show wpAny _ _ (ret Value.none) _ _ _
          refine wpAny_pure ⟨rfl, h', tk', rfl, hS', fun b o hb e => ?_⟩
          have hb1 : b ≠ s.heap.objs.size := Nat.ne_of_lt hb
          have hb2 : b ≠ (s.heap.push { cls := .type "set", dict := none, data := .set #[] 0 (.fresh 0 0 led) }).objs.size := by
            rw [Heap.size_push]; exact Nat.ne_of_lt (Nat.lt_succ_of_lt hb)
          exact hm.heap b o (by simp only [List.mem_cons, List.mem_singleton, List.not_mem_nil, or_false, not_or]; exact ⟨hb1, hb2⟩) (Heap.get?_push_of_some _ (Heap.get?_push_of_some _ e))

      · cases r₂ with
        | error e => exact hr₂
        | ok fl₂ =>
          cases fl₂ with
          | ret r =>
            obtain ⟨rfl, h', tk, rfl, hS', hk'⟩ := hr₂
            repeat (any_goals (first | assumption | wp_step))
            exact h _ _ hS' hk'
          | _ => exact hr₂.elim
    | _ => exact hr.elim

end
end TB

namespace TB
open PySem PySem.Spec PyProof.Rows L2 RT
section
variable {X : Cx}
/-- len(set(xs)), xs a list of distinct texts -/
def tLenSetN (K : PySem.W.Frag) (ta : TE) : TE := fun σ H Q => ta σ H fun x H1 => ∃ l, ∃ xs : List Str, x = .ref l ∧ SqL K H1 l (xs.map V.str) ∧ xs.length ≤ 1000 ∧ xs.Nodup ∧ Q (.int xs.length) H1
theorem pe_lenSetN {a : Expr} {ta : TE} {p p2 q pos : Pos} (hc : X.calm = true) (hg : Gl X "len") (hm : X.mg "len" = none) (hg2 : Gl X "set") (hm2 : X.mg "set" = none) (ha : PE X a ta)
    (na : starEach [a] X.env = (false, eval a X.env) :: starEach [] X.env := by rfl) : PE X (.Call (.Name "len" p) [.Call (.Name "set" p2) [a] [] q] [] pos) (tLenSetN X.K ta) := by
  refine ⟨fun pins s σ H Q I h => ?_⟩
  refine Call_ (ld_blt I hg hm boot_len ?_)
  refine PyProof.Rows.callWith_builtin1 (PyProof.Rows.args_cons ?_ rfl) rfl rfl
  refine Call_ (ld_blt I hg2 hm2 boot_set ?_)
  refine PyProof.Rows.callWith_type1 (PyProof.Rows.args_cons (thn (ha.run pins s σ H _ I h) fun v s1 ⟨x, H1, I1, r1, q1⟩ => PyProof.Rows.args_nil ?_) na) na rfl
  obtain ⟨l, xs, rfl, hq, h1, nd, q1⟩ := q1
  cases r1
  obtain ⟨its, r, pl, hz⟩ := I1.list hq
  have hl : its.toArray.size = xs.length := by rw [List.size_toArray, ← r.length, List.length_map]
  refine call_set_nd (I1.ok.hd hc) pl.isList (by simpa using strsAre_of r) (by unfold scanBound; omega) nd fun h' tk hS hk => ?_
  refine PyProof.Rows.args_nil ?_
  rw [hl] at hS
  obtain ⟨o, es, ep, t, ho, hex, hd, _, _, _, hf, hn⟩ := hS
  have I2 : Inv X pins σ H1 { s1 with heap := h', toks := tk } := I1.kept fun b o e => hk b o (Heap.lt_size e) e
  exact call_len_set ho hex hd hf (by rw [hn] <;> omega) ⟨.int xs.length, H1, I2.tok _, ⟨_, by rw [hn]⟩, q1⟩
/-- list(range(i, j, -1)) -/
def downV (i : Int) (n : Nat) : List V := (List.range n).map fun k => V.int (i - (k : Nat))
def tLstDown (ta : TA) : TE := fun σ H Q => ta σ H fun vs H1 => ∃ i j : Int, vs = [.int i, .int j, .int (-1)] ∧ (-(2 ^ 62) ≤ i ∧ i < 2 ^ 62 ∧ -(2 ^ 62) ≤ j ∧ j < 2 ^ 62 ∧ (i - j).toNat ≤ 2 ^ 24) ∧ ∀ q, H1 q = none → Q (.ref q) (upd H1 q (.lst (downV i (i - j).toNat)))
theorem vals_down {i : Int} {n : Nat} {acc : Array Value} (h : ItemsOf (fun k v => ∃ t, v = .int (i + k * (-1)) t) acc n) : Vals (downV i n) acc.toList := by
  have e : acc.toList.length = n := by rw [Array.length_toList]; exact h.1
  unfold downV
  rw [← e]
  refine vals_of_get acc.toList _ fun j u hj => ?_
  obtain ⟨t, rfl⟩ := h.2 j u (by rw [← hj, Array.getElem?_toList])
  have e2 : i + (j : Nat) * (-1) = i - (j : Nat) := by omega
  exact ⟨t, by rw [e2]⟩
theorem pe_listDown {a b c : Expr} {ta : TA} {p p2 pos pos2 : Pos} (hc : X.calm = true) (hg : Gl X "list") (hm : X.mg "list" = none) (hg2 : Gl X "range") (hm2 : X.mg "range" = none) (ha : PA X [a, b, c] ta)
    (hs : starEach [a, b, c] X.env = (false, eval a X.env) :: starEach [b, c] X.env := by rfl) (hpl : (backTo pos2 (starEach [b, c] X.env)).any (·.1) = false := by rfl)
    (na : starEach [.Call (.Name "range" p2) [a, b, c] [] pos2] X.env = (false, eval (.Call (.Name "range" p2) [a, b, c] [] pos2) X.env) :: starEach [] X.env := by rfl) :
    PE X (.Call (.Name "list" p) [.Call (.Name "range" p2) [a, b, c] [] pos2] [] pos) (tLstDown ta) := by
  refine ⟨fun pins s σ H Q I h => ?_⟩
  refine Call_ (ld_blt I hg hm boot_list (PyProof.Rows.callWith_type1 (args_cons ?_ na) na))
  refine Call_ (ld_blt I hg2 hm2 boot_range (PyProof.Rows.callWith_type1 (thn (ha.run pos2 pins s σ H _ I h) fun us s1 ⟨vs, H1, I1, r1, q1⟩ => ?_) hs hpl))
  obtain ⟨i, j, e, ⟨b1, b2, b3, b4, b5⟩, q⟩ := q1
  subst e
  cases r1 with
  | cons r rr =>
    cases rr with
    | cons r' rr =>
      cases rr with
      | cons r'' rr =>
        cases rr
        obtain ⟨t, rfl⟩ := r
        obtain ⟨t', rfl⟩ := r'
        obtain ⟨t'', rfl⟩ := r''
        obtain ⟨c0, c1, c2, c3⟩ := RgC.neg b1 b2 b3 b4
        refine call_range_3 c0 ?_ (.inl (PyProof.noPylong_small c1))
        have I2 : Inv X pins σ H1 { s1 with heap := s1.heap.push { cls := .type "range", data := .fields #[.int i t, .int j t', .int (-1) t''] } } := I1.kept (t' := s1.toks) fun b o e => Heap.get?_push_of_some _ e
        refine args_nil ?_
        refine call_list_range (n := (i - j).toNat) (I1.ok.hd hc) (IsRange.new ..) c2 c3 b5 fun h' tk acc c' hk e' hi => ?_
        refine ⟨.ref _, upd H1 _ (.lst (downV i (i - j).toNat)), I2.laid hk (Nat.le_refl _) (show ObjOk X.prog X.w _ _ _ (.lst (downV i (i - j).toNat)) from ⟨?_, acc.toList, c', vals_down hi, ?_⟩), rfl, q _ (I2.hok.fresh (Nat.le_refl _))⟩
        · unfold downV; rw [List.length_map, List.length_range, sizeLine_eq]; omega
        · rw [Array.toArray_toList]; exact e'
/-- sorted(d), d a dict with whole numbers as keys -/
def rSortKeys : RC1 := fun xs H Q => ∃ (a : Addr) (kvs : List (Key × V)) (ks : List Int), xs = [.ref a] ∧ Rd H a (.dK kvs) ∧ kvs.map (·.1) = ks.map Sum.inl ∧ ks.length < 64 ∧
    ∀ (ys : List Int) (p : Addr), ys.Perm ks → ys.Pairwise (· ≤ ·) → H p = none → Q (.ref p) (upd H p (.lst (ys.map V.int)))
theorem cr_sortKeys (hc : X.calm = true) : CallR X (.builtin "sorted") rSortKeys := call_sortedDI hc
def rAbs : RC1 := fun xs H Q => ∃ i, xs = [.int i] ∧ Q (.int (if i < 0 then -i else i)) H
theorem cr_abs : CallR X (.builtin "abs") rAbs := call_abs
def rInt1 : RC1 := fun xs H Q => (∃ i, xs = [.int i] ∧ Q (.int i) H) ∨ ∃ k, xs = [.bl k] ∧ Q (.int (if k then 1 else 0)) H
theorem cr_int1 : CallR X (.type "int") rInt1 := call_int1
def rInsert : V → List V → Hp → VK → Prop := fun x vs H Q => ∃ (l : Addr) (xs : List V) (i : Int) (y : V), x = .ref l ∧ vs = [.int i, y] ∧ H l = some (.lst xs) ∧ xs.length < sizeLine ∧ 0 ≤ i ∧ i < 2 ^ 63 ∧ Q .non (upd H l (.lst (xs.take i.toNat ++ [y] ++ xs.drop i.toNat)))
theorem mt_insert' : MtR X "list.insert" rInsert := mt_insert
end
end TB
set_option Elab.async false
set_option linter.all false
set_option autoImplicit false
set_option maxRecDepth 100000
set_option maxHeartbeats 4000000
/-! The text's defs by place, their slots; the names they look up. -/
namespace TB
open PySem PySem.Spec PyProof.Rows L2 RT
def topS (i : Nat) : Stmt := PySem.Challenge.pw_touchboats_k54_whole_who_can_be_head.main.body.getD i (.Pass ⟨0, 0, 0, 0⟩)
theorem b_len : bootBuiltins "len" = some (.builtin "len") := by decide +kernel
theorem b_isinstance : bootBuiltins "isinstance" = some (.builtin "isinstance") := by decide +kernel
theorem b_min : bootBuiltins "min" = some (.builtin "min") := by decide +kernel
theorem b_max : bootBuiltins "max" = some (.builtin "max") := by decide +kernel
theorem b_sorted : bootBuiltins "sorted" = some (.builtin "sorted") := by decide +kernel
theorem b_all : bootBuiltins "all" = some (.builtin "all") := by decide +kernel
theorem b_any : bootBuiltins "any" = some (.builtin "any") := by decide +kernel
theorem b_abs : bootBuiltins "abs" = some (.builtin "abs") := by decide +kernel
theorem b_repr : bootBuiltins "repr" = some (.builtin "repr") := by decide +kernel
theorem b_int : bootBuiltins "int" = some (.type "int") := by decide +kernel
theorem b_str : bootBuiltins "str" = some (.type "str") := by decide +kernel
theorem b_bool : bootBuiltins "bool" = some (.type "bool") := by decide +kernel
theorem b_tuple : bootBuiltins "tuple" = some (.type "tuple") := by decide +kernel
theorem b_list : bootBuiltins "list" = some (.type "list") := by decide +kernel
theorem b_dict : bootBuiltins "dict" = some (.type "dict") := by decide +kernel
def azS : Str := "abcdefghijklmnopqrstuvwxyz"
/-- the names the text looks up and does not set; its constants -/
structure Nm (mg : Str → Option Value) : Prop where
  m_isinstance : mg "isinstance" = none
  m_str : mg "str" = none
  m_int : mg "int" = none
  m_bool : mg "bool" = none
  m_tuple : mg "tuple" = none
  m_list : mg "list" = none
  m_dict : mg "dict" = none
  m_len : mg "len" = none
  m_range : mg "range" = none
  m_reversed : mg "reversed" = none
  m_min : mg "min" = none
  m_max : mg "max" = none
  m_sorted : mg "sorted" = none
  m_enumerate : mg "enumerate" = none
  m_zip : mg "zip" = none
  m_all : mg "all" = none
  m_any : mg "any" = none
  m_set : mg "set" = none
  m_abs : mg "abs" = none
  m_repr : mg "repr" = none
  gBS : ∃ u, mg "BOAT_SIGNS" = some u ∧ RelV (.str azS) u
  gMS : ∃ u, mg "MOST_SIGNS" = some u ∧ RelV (.int 8) u
  gMB : ∃ u, mg "MOST_BOATS" = some u ∧ RelV (.int 24) u

section
variable {X : Cx} (K : PySem.W.Frag) (h : X.K = K)
include h
theorem k_in_seq : OpR X (compareOp .In) (rIn K false) := h ▸ op_in_seq
theorem k_notIn_seq : OpR X (compareOp .NotIn) (rIn K true) := h ▸ op_notIn_seq
theorem k_catF : OpR X (binaryOp .Add) (rCatF K) := h ▸ op_catF
theorem k_cat : OpR X (binaryOp .Add) rCat := op_cat
theorem k_eqD (hu : X.A.units + 64 < cLine) : OpR X (compareOp .Eq) (rEqD K) := h ▸ L2.op_eqD hu
theorem k_neD (hu : X.A.units + 64 < cLine) : OpR X (compareOp .NotEq) (rNeD K) := h ▸ L2.op_neD hu
theorem k_inT (hu : X.A.units + 65 < cLine) : OpR X (compareOp .In) (rInT K) := h ▸ op_inT hu
theorem k_inD (hu : X.A.units + 65 < cLine) : OpR X (compareOp .In) (rInD K) := h ▸ op_inD hu
theorem k_notInD (hu : X.A.units + 65 < cLine) : OpR X (compareOp .NotIn) (rNotInD K) := h ▸ op_notInD hu
theorem k_ltD (hu : X.A.units + 64 < cLine) : OpR X (compareOp .Lt) (rLtD K) := h ▸ op_ltD hu
theorem k_ix_list : IxR X (rIxL K) := h ▸ ix_list
theorem k_ix_tup : IxR X (rIxT K) := h ▸ ix_tup
theorem k_sl_tupF : SlR X (rSlF K) := h ▸ sl_tupF
theorem k_sl_list : SlR X (rSlL K) := h ▸ sl_list
theorem k_len : CallR X (.builtin "len") (rLenQ K) := h ▸ cr_len
theorem k_list : CallR X (.type "list") (rListQ K) := h ▸ cr_list
theorem k_tupF : CallR X (.type "tuple") (rTupF K) := h ▸ cr_tupF
theorem k_all (hc : X.calm = true) : CallR X (.builtin "all") (rAll K) := h ▸ cr_all hc
theorem k_any (hc : X.calm = true) : CallR X (.builtin "any") (rAny K) := h ▸ cr_any hc
theorem k_isi : CallR X (.builtin "isinstance") (rIsi K) := h ▸ call_isi
theorem k_tidx : MtR X "tuple.index" (rTIdx K) := h ▸ mt_tidx
theorem k_sortD (hu : X.A.units + 64 < cLine) : CallR X (.builtin "sorted") (rSortD K) := h ▸ cr_sortD hu
theorem k_pgtup {es : List Expr} {k : Nat} {t : TGs} {n : Nat} {pos : Pos} (hc : X.calm = true) (hg : PGs X es t)
    (hn : (assignEach es X.env).length = n := by rfl) (hst : (assignEach es X.env).findIdx? (·.1) = none := by rfl) : PG X (.Tuple es k pos) (gTup K n t) := h ▸ pg_tup hc hg hn hst
end
section
variable {X : Cx}
theorem pe_ty {x : Str} {T : String} {pos : Pos} (hg : Gl X x) (hm : X.mg x = none) (hv : bootBuiltins x = some (.type T)) (hn : x ≠ "__name__" := by decide) (hd : (x == ("__debug__" : Str)) = false := by decide) : PE X (.Name x pos) (tC (.ty T)) :=
  pe_bltn (v := V.ty T) hg hm hv rfl hn hd
theorem pe_gcst {x : Str} {v : V} {pos : Pos} (hg : Gl X x) (h : ∃ u, X.mg x = some u ∧ RelV v u) (hd : (x == ("__debug__" : Str)) = false := by decide) : PE X (.Name x pos) (tC v) := by
  obtain ⟨u, h1, h2⟩ := h
  exact pe_glob hg h1 h2 hd
end
abbrev s_is_boat : Stmt := topS 4
abbrev N_is_boat : List Str := ["thing"]
theorem sc_is_boat : FnScope N_is_boat ["thing"] (defScope s_is_boat) := ⟨rfl, rfl, rfl, by decide +kernel, rfl, by decide +kernel, by decide +kernel⟩
abbrev s_races_of : Stmt := topS 5
abbrev N_races_of : List Str := ["meeting", "n", "size", "reach"]
theorem sc_races_of : FnScope N_races_of ["meeting", "n"] (defScope s_races_of) := ⟨rfl, rfl, rfl, by decide +kernel, rfl, by decide +kernel, by decide +kernel⟩
abbrev s_span : Stmt := topS 6
abbrev N_span : List Str := ["meeting", "n", "k", "size", "reach"]
theorem sc_span : FnScope N_span ["meeting", "n", "k"] (defScope s_span) := ⟨rfl, rfl, rfl, by decide +kernel, rfl, by decide +kernel, by decide +kernel⟩
abbrev s_exchanged : Stmt := topS 7
abbrev N_exchanged : List Str := ["row", "one", "other", "boats"]
theorem sc_exchanged : FnScope N_exchanged ["row", "one", "other"] (defScope s_exchanged) := ⟨rfl, rfl, rfl, by decide +kernel, rfl, by decide +kernel, by decide +kernel⟩
abbrev s_moves_from : Stmt := topS 9
abbrev N_moves_from : List Str := ["meeting", "n", "places", "p", "found", "k", "first", "last", "here", "one", "moves", "goal"]
theorem sc_moves_from : FnScope N_moves_from ["meeting", "n", "places", "p"] (defScope s_moves_from) := ⟨rfl, rfl, rfl, by decide +kernel, rfl, by decide +kernel, by decide +kernel⟩
abbrev s_places_behind : Stmt := topS 10
abbrev N_places_behind : List Str := ["meeting", "n", "places", "p"]
theorem sc_places_behind : FnScope N_places_behind ["meeting", "n", "places", "p"] (defScope s_places_behind) := ⟨rfl, rfl, rfl, by decide +kernel, rfl, by decide +kernel, by decide +kernel⟩
abbrev s_day_by : Stmt := topS 11
abbrev N_day_by : List Str := ["meeting", "row", "resting", "moves", "sheets", "k", "first", "last", "drops", "boat", "sheet", "race", "here", "goal", "ahead", "behind"]
theorem sc_day_by : FnScope N_day_by ["meeting", "row", "resting", "moves"] (defScope s_day_by) := ⟨rfl, rfl, rfl, by decide +kernel, rfl, by decide +kernel, by decide +kernel⟩
abbrev s_days_by : Stmt := topS 12
abbrev N_days_by : List Str := ["meeting", "row", "resting", "ways", "days", "moves", "day"]
theorem sc_days_by : FnScope N_days_by ["meeting", "row", "resting", "ways"] (defScope s_days_by) := ⟨rfl, rfl, rfl, by decide +kernel, rfl, by decide +kernel, by decide +kernel⟩
abbrev s_further_on : Stmt := topS 13
abbrev N_further_on : List Str := ["table", "here", "found", "place", "goal"]
theorem sc_further_on : FnScope N_further_on ["table", "here"] (defScope s_further_on) := ⟨rfl, rfl, rfl, by decide +kernel, rfl, by decide +kernel, by decide +kernel⟩
abbrev s_head_thing : Stmt := topS 14
abbrev N_head_thing : List Str := ["meeting", "row", "resting", "table", "many", "p", "here", "sets", "day"]
theorem sc_head_thing : FnScope N_head_thing ["meeting", "row", "resting", "table", "many", "p"] (defScope s_head_thing) := ⟨rfl, rfl, rfl, by decide +kernel, rfl, by decide +kernel, by decide +kernel⟩
abbrev s_heads_of : Stmt := topS 15
abbrev N_heads_of : List Str := ["meeting", "row", "resting", "many", "places", "p", "boat", "table"]
theorem sc_heads_of : FnScope N_heads_of ["meeting", "row", "resting", "many"] (defScope s_heads_of) := ⟨rfl, rfl, rfl, by decide +kernel, rfl, by decide +kernel, by decide +kernel⟩
abbrev s_is_event : Stmt := topS 17
abbrev N_is_event : List Str := ["thing", "boat"]
theorem sc_is_event : FnScope N_is_event ["thing"] (defScope s_is_event) := ⟨rfl, rfl, rfl, by decide +kernel, rfl, by decide +kernel, by decide +kernel⟩
abbrev s_boats_between : Stmt := topS 18
abbrev N_boats_between : List Str := ["start", "event", "one", "other"]
theorem sc_boats_between : FnScope N_boats_between ["start", "event"] (defScope s_boats_between) := ⟨rfl, rfl, rfl, by decide +kernel, rfl, by decide +kernel, by decide +kernel⟩
abbrev s_goes_ahead : Stmt := topS 19
abbrev N_goes_ahead : List Str := ["start", "event"]
theorem sc_goes_ahead : FnScope N_goes_ahead ["start", "event"] (defScope s_goes_ahead) := ⟨rfl, rfl, rfl, by decide +kernel, rfl, by decide +kernel, by decide +kernel⟩
abbrev s_is_sheet : Stmt := topS 20
abbrev N_is_sheet : List Str := ["thing", "event", "one", "other"]
theorem sc_is_sheet : FnScope N_is_sheet ["thing"] (defScope s_is_sheet) := ⟨rfl, rfl, rfl, by decide +kernel, rfl, by decide +kernel, by decide +kernel⟩
abbrev s_touches_in : Stmt := topS 21
abbrev N_touches_in : List Str := ["sheet", "event"]
theorem sc_touches_in : FnScope N_touches_in ["sheet"] (defScope s_touches_in) := ⟨rfl, rfl, rfl, by decide +kernel, rfl, by decide +kernel, by decide +kernel⟩
abbrev s_row_behind : Stmt := topS 22
abbrev N_row_behind : List Str := ["start", "sheet", "row", "event"]
theorem sc_row_behind : FnScope N_row_behind ["start", "sheet"] (defScope s_row_behind) := ⟨rfl, rfl, rfl, by decide +kernel, rfl, by decide +kernel, by decide +kernel⟩
abbrev s_strange_or_twice : Stmt := topS 23
abbrev N_strange_or_twice : List Str := ["start", "sheet", "met", "event", "boat"]
theorem sc_strange_or_twice : FnScope N_strange_or_twice ["start", "sheet"] (defScope s_strange_or_twice) := ⟨rfl, rfl, rfl, by decide +kernel, rfl, by decide +kernel, by decide +kernel⟩
abbrev s_touch_fault : Stmt := topS 24
abbrev N_touch_fault : List Str := ["start", "reach", "sheet", "event", "between", "boat", "other"]
theorem sc_touch_fault : FnScope N_touch_fault ["start", "reach", "sheet", "event"] (defScope s_touch_fault) := ⟨rfl, rfl, rfl, by decide +kernel, rfl, by decide +kernel, by decide +kernel⟩
abbrev s_is_crossed : Stmt := topS 25
abbrev N_is_crossed : List Str := ["start", "one", "other", "between"]
theorem sc_is_crossed : FnScope N_is_crossed ["start", "one", "other"] (defScope s_is_crossed) := ⟨rfl, rfl, rfl, by decide +kernel, rfl, by decide +kernel, by decide +kernel⟩
abbrev s_fault_of : Stmt := topS 26
abbrev N_fault_of : List Str := ["start", "reach", "sheet", "fault", "touches", "event", "number", "one", "other"]
theorem sc_fault_of : FnScope N_fault_of ["start", "reach", "sheet"] (defScope s_fault_of) := ⟨rfl, rfl, rfl, by decide +kernel, rfl, by decide +kernel, by decide +kernel⟩
abbrev s_length_of : Stmt := topS 27
abbrev N_length_of : List Str := ["start", "event"]
theorem sc_length_of : FnScope N_length_of ["start", "event"] (defScope s_length_of) := ⟨rfl, rfl, rfl, by decide +kernel, rfl, by decide +kernel, by decide +kernel⟩
abbrev s_order_of : Stmt := topS 28
abbrev N_order_of : List Str := ["start", "reach", "sheet", "fault", "order", "event", "length"]
theorem sc_order_of : FnScope N_order_of ["start", "reach", "sheet"] (defScope s_order_of) := ⟨rfl, rfl, rfl, by decide +kernel, rfl, by decide +kernel, by decide +kernel⟩
abbrev s_is_day : Stmt := topS 30
abbrev N_is_day : List Str := ["thing", "sheet"]
theorem sc_is_day : FnScope N_is_day ["thing"] (defScope s_is_day) := ⟨rfl, rfl, rfl, by decide +kernel, rfl, by decide +kernel, by decide +kernel⟩
abbrev s_start_on : Stmt := topS 31
abbrev N_start_on : List Str := ["meeting", "row", "k", "first", "last"]
theorem sc_start_on : FnScope N_start_on ["meeting", "row", "k"] (defScope s_start_on) := ⟨rfl, rfl, rfl, by decide +kernel, rfl, by decide +kernel, by decide +kernel⟩
abbrev s_laid_on : Stmt := topS 32
abbrev N_laid_on : List Str := ["meeting", "row", "k", "some", "first", "last"]
theorem sc_laid_on : FnScope N_laid_on ["meeting", "row", "k", "some"] (defScope s_laid_on) := ⟨rfl, rfl, rfl, by decide +kernel, rfl, by decide +kernel, by decide +kernel⟩
abbrev s_races_going : Stmt := topS 33
abbrev N_races_going : List Str := ["meeting", "row"]
theorem sc_races_going : FnScope N_races_going ["meeting", "row"] (defScope s_races_going) := ⟨rfl, rfl, rfl, by decide +kernel, rfl, by decide +kernel, by decide +kernel⟩
abbrev s_day_behind : Stmt := topS 34
abbrev N_day_behind : List Str := ["meeting", "row", "day", "many", "k", "start", "word", "thing"]
theorem sc_day_behind : FnScope N_day_behind ["meeting", "row", "day"] (defScope s_day_behind) := ⟨rfl, rfl, rfl, by decide +kernel, rfl, by decide +kernel, by decide +kernel⟩
abbrev s_starts_of : Stmt := topS 35
abbrev N_starts_of : List Str := ["meeting", "row", "day", "found", "k", "start"]
theorem sc_starts_of : FnScope N_starts_of ["meeting", "row", "day"] (defScope s_starts_of) := ⟨rfl, rfl, rfl, by decide +kernel, rfl, by decide +kernel, by decide +kernel⟩
abbrev s_all_rest : Stmt := topS 37
abbrev N_all_rest : List Str := ["meeting", "row", "resting", "day", "sheet", "start", "boat"]
theorem sc_all_rest : FnScope N_all_rest ["meeting", "row", "resting", "day"] (defScope s_all_rest) := ⟨rfl, rfl, rfl, by decide +kernel, rfl, by decide +kernel, by decide +kernel⟩
abbrev s_shows_can : Stmt := topS 38
abbrev N_shows_can : List Str := ["meeting", "row", "resting", "many", "boat", "days", "day", "told"]
theorem sc_shows_can : FnScope N_shows_can ["meeting", "row", "resting", "many", "boat", "days"] (defScope s_shows_can) := ⟨rfl, rfl, rfl, by decide +kernel, rfl, by decide +kernel, by decide +kernel⟩
abbrev s_are_places : Stmt := topS 39
abbrev N_are_places : List Str := ["n", "thing", "p", "one", "other"]
theorem sc_are_places : FnScope N_are_places ["n", "thing"] (defScope s_are_places) := ⟨rfl, rfl, rfl, by decide +kernel, rfl, by decide +kernel, by decide +kernel⟩
abbrev s_shows_cannot : Stmt := topS 40
abbrev N_shows_cannot : List Str := ["meeting", "row", "resting", "many", "boat", "sets", "one", "places", "p", "behind", "here", "further", "goal"]
theorem sc_shows_cannot : FnScope N_shows_cannot ["meeting", "row", "resting", "many", "boat", "sets"] (defScope s_shows_cannot) := ⟨rfl, rfl, rfl, by decide +kernel, rfl, by decide +kernel, by decide +kernel⟩
abbrev s_shows_head : Stmt := topS 41
abbrev N_shows_head : List Str := ["meeting", "row", "resting", "many", "boat", "thing"]
theorem sc_shows_head : FnScope N_shows_head ["meeting", "row", "resting", "many", "boat", "thing"] (defScope s_shows_head) := ⟨rfl, rfl, rfl, by decide +kernel, rfl, by decide +kernel, by decide +kernel⟩
abbrev s__law_begin : Stmt := topS 43
abbrev N__law_begin : List Str := ["_law_script", "_law_k", "_law_cell", "_law_seed", "_law_one"]
theorem sc__law_begin : FnScope N__law_begin ["_law_script", "_law_k"] (defScope s__law_begin) := ⟨rfl, rfl, rfl, by decide +kernel, rfl, by decide +kernel, by decide +kernel⟩
abbrev s__law_take : Stmt := topS 44
abbrev N__law_take : List Str := ["_law_pot", "_law_many", "_law_digit", "_law_turn", "_law_mixed"]
theorem sc__law_take : FnScope N__law_take ["_law_pot", "_law_many"] (defScope s__law_take) := ⟨rfl, rfl, rfl, by decide +kernel, rfl, by decide +kernel, by decide +kernel⟩
abbrev s__law_boats : Stmt := topS 45
abbrev N__law_boats : List Str := ["_law_pot", "_law_many", "_law_letters", "_law_first", "_law_step", "_law_ahead", "_law_stem", "_law_k", "_law_boats_here", "_law_sign", "_law_part", "_law_word"]
theorem sc__law_boats : FnScope N__law_boats ["_law_pot", "_law_many"] (defScope s__law_boats) := ⟨rfl, rfl, rfl, by decide +kernel, rfl, by decide +kernel, by decide +kernel⟩
abbrev s__law_marks : Stmt := topS 46
abbrev N__law_marks : List Str := ["_law_pot", "_law_reach", "_law_many", "_law_word", "_law_still", "_law_place", "_law_way", "_law_mark"]
theorem sc__law_marks : FnScope N__law_marks ["_law_pot", "_law_reach", "_law_many"] (defScope s__law_marks) := ⟨rfl, rfl, rfl, by decide +kernel, rfl, by decide +kernel, by decide +kernel⟩
abbrev s__law_sheet : Stmt := topS 47
abbrev N__law_sheet : List Str := ["_law_start", "_law_word", "_law_found", "_law_still", "_law_boat", "_law_mark"]
theorem sc__law_sheet : FnScope N__law_sheet ["_law_start", "_law_word"] (defScope s__law_sheet) := ⟨rfl, rfl, rfl, by decide +kernel, rfl, by decide +kernel, by decide +kernel⟩
abbrev s__law_span : Stmt := topS 48
abbrev N__law_span : List Str := ["_law_meeting", "_law_n", "_law_k"]
theorem sc__law_span : FnScope N__law_span ["_law_meeting", "_law_n", "_law_k"] (defScope s__law_span) := ⟨rfl, rfl, rfl, by decide +kernel, rfl, by decide +kernel, by decide +kernel⟩
abbrev s__law_many_races : Stmt := topS 49
abbrev N__law_many_races : List Str := ["_law_meeting", "_law_n"]
theorem sc__law_many_races : FnScope N__law_many_races ["_law_meeting", "_law_n"] (defScope s__law_many_races) := ⟨rfl, rfl, rfl, by decide +kernel, rfl, by decide +kernel, by decide +kernel⟩
abbrev s__law_raced : Stmt := topS 50
abbrev N__law_raced : List Str := ["_law_start", "_law_reach", "_law_sheet_here", "_law_boats_here", "_law_pairs", "_law_event", "_law_boat", "_law_found", "_law_p", "_law_q", "_law_r", "_law_s"]
theorem sc__law_raced : FnScope N__law_raced ["_law_start", "_law_reach", "_law_sheet_here"] (defScope s__law_raced) := ⟨rfl, rfl, rfl, by decide +kernel, rfl, by decide +kernel, by decide +kernel⟩
abbrev s__law_resting_day : Stmt := topS 51
abbrev N__law_resting_day : List Str := ["_law_pot", "_law_meeting", "_law_row", "_law_resting", "_law_sheets", "_law_k", "_law_first", "_law_last", "_law_start", "_law_sheet_here", "_law_found", "_law_event", "_law_boat"]
theorem sc__law_resting_day : FnScope N__law_resting_day ["_law_pot", "_law_meeting", "_law_row", "_law_resting"] (defScope s__law_resting_day) := ⟨rfl, rfl, rfl, by decide +kernel, rfl, by decide +kernel, by decide +kernel⟩
abbrev s__law_days_right : Stmt := topS 52
abbrev N__law_days_right : List Str := ["_law_meeting", "_law_row", "_law_resting", "_law_boat", "_law_days", "_law_day", "_law_told", "_law_sheet_here", "_law_start", "_law_one"]
theorem sc__law_days_right : FnScope N__law_days_right ["_law_meeting", "_law_row", "_law_resting", "_law_boat", "_law_days"] (defScope s__law_days_right) := ⟨rfl, rfl, rfl, by decide +kernel, rfl, by decide +kernel, by decide +kernel⟩
abbrev s__law_told_right : Stmt := topS 53
abbrev N__law_told_right : List Str := ["_law_meeting", "_law_rows", "_law_resting", "_law_boat", "_law_thing", "_law_many", "_law_others", "_law_one", "_law_row", "_law_here"]
theorem sc__law_told_right : FnScope N__law_told_right ["_law_meeting", "_law_rows", "_law_resting", "_law_boat", "_law_thing"] (defScope s__law_told_right) := ⟨rfl, rfl, rfl, by decide +kernel, rfl, by decide +kernel, by decide +kernel⟩
abbrev s_law : Stmt := topS 54
abbrev N_law : List Str := ["_law_script", "_law_pot", "_law_meeting", "_law_row", "_law_often", "_law_resting", "_law_many", "_law_boat", "_law_rows", "_law_day", "_law_made", "_law_behind", "_law_things", "_law_thing", "_law_able", "_law_later", "_law_places", "_law_p", "_law_told"]
theorem sc_law : FnScope N_law ["_law_script"] (defScope s_law) := ⟨rfl, rfl, rfl, by decide +kernel, rfl, by decide +kernel, by decide +kernel⟩
end TB
set_option Elab.async false
set_option linter.all false
set_option autoImplicit false
set_option maxRecDepth 100000
set_option maxHeartbeats 4000000
/-! TB: more rules in the forms the defs use. -/
namespace TB
open PySem PySem.Spec PyProof.Rows L2 RT
/-! ### slices by whole numbers -/
section
variable {α : Type} {xs : List α} {i j : Int} {a b : Nat}
theorem cut_ab (h1 : i = (a : Nat)) (h2 : j = (b : Nat)) : cut xs (some i) (some j) = (xs.drop a).take (b - a) := by
  subst h1; subst h2
  unfold cut
  rw [HT.sIx_nat, HT.sIx_nat]
  by_cases h : a ≤ xs.length
  · rw [Nat.min_eq_left h]
    by_cases h' : b ≤ xs.length
    · rw [Nat.min_eq_left h']
    · rw [Nat.min_eq_right (by omega)]
      rw [List.take_of_length_le (by rw [List.length_drop]; omega), List.take_of_length_le (by rw [List.length_drop]; omega)]
  · have e : min a xs.length = xs.length := by omega
    rw [e, List.drop_length, List.drop_of_length_le (by omega)]
    simp
theorem cut_a (h1 : i = (a : Nat)) : cut xs (some i) none = xs.drop a := by
  subst h1
  unfold cut
  rw [HT.sIx_nat, HT.sIx_none]
  by_cases h : a ≤ xs.length
  · rw [Nat.min_eq_left h, List.take_of_length_le (by rw [List.length_drop]; omega)]
  · rw [Nat.min_eq_right (by omega), List.drop_length, List.drop_of_length_le (by omega)]
    simp
theorem cut_b (h1 : j = (b : Nat)) : cut xs none (some j) = xs.take b := by
  subst h1
  unfold cut
  rw [HT.sIx_nat, HT.sIx_none, List.drop_zero, Nat.sub_zero]
  by_cases h : b ≤ xs.length
  · rw [Nat.min_eq_left h]
  · rw [Nat.min_eq_right (by omega), List.take_length, List.take_of_length_le (by omega)]
end
section
variable {K : PySem.W.Frag} {r : Ro} {m m' : Mp} {ta tb tc te td ty tv : TE} {tt tu : TT} {x y z d : Dt} {rr : R2} {nx : Ro → Mp → Prop} {rt : Dt → Mp → Prop} {t u : TS}
theorem lt64 {a : Nat} (h : a < 2 ^ 64) : ((a : Nat) : Int).natAbs < 2 ^ 64 := by rw [Int.natAbs_natCast]; exact h
theorem op_mulN {a b : Nat} (ha : a < 2 ^ 64) (hb : b < 2 ^ 64) : Op (rI CMulW fun i j => .int (i * j)) (.int (a : Nat)) (.int (b : Nat)) m (.int ((a * b : Nat) : Int)) :=
  Op.is (op_Ii (f := fun i j => i * j) (wide_mul (lt64 ha) (lt64 hb) (by decide) (by decide) (by decide))) (by rw [Int.natCast_mul])
theorem op_divN {a b : Nat} (hb : 0 < b) (hb2 : b < 1073741824) : Op (rI CDiv fun i j => .int (i / j)) (.int (a : Nat)) (.int (b : Nat)) m (.int ((a / b : Nat) : Int)) :=
  Op.is (op_Ii (f := fun i j => i / j) (show CDiv _ _ from ⟨by omega, by omega⟩)) (by rw [Int.natCast_ediv])
/-- where z stands in ys -/
theorem ev_idx {to : TE} {ys : List Str} {z : Str} (ho : Ev to r m (.tup (ys.map .str))) (h : Ev te r m (.str z)) (hz : z ∈ ys) : Ev (tTM (rTIdx K) to (tCons te tNil)) r m (.int (ys.idxOf z : Nat)) := by
  have hl : ys.idxOf z < ys.length := List.idxOf_lt_length_of_mem hz
  refine ev_tidx ho h ?_ fun k hk => ?_
  · rw [List.getElem?_eq_getElem hl, List.getElem_idxOf hl]
  · intro e
    have hk2 : k < ys.length := by omega
    rw [List.getElem?_eq_getElem hk2] at e
    have e2 := Option.some.inj e
    have := List.not_of_lt_findIdx (p := (· == z)) (xs := ys) (i := k) hk
    simp [e2] at this
theorem op_ixTn {α : Type} {enc : α → Dt} {xs : List α} {v : α} {i : Int} {k : Nat} (e : i = (k : Nat)) (h : xs[k]? = some v) : Op (rIxT K) (.tup (xs.map enc)) (.int i) m (enc v) :=
  op_ixT (atI_n e (by rw [List.getElem?_map, h]; rfl))
theorem op_ixTk {α : Type} {enc : α → Dt} {xs : List α} {v : α} (i : Int) (h : xs[i.toNat]? = some v) (h0 : 0 ≤ i := by decide) : Op (rIxT K) (.tup (xs.map enc)) (.int i) m (enc v) :=
  op_ixTn (k := i.toNat) (by omega) h
theorem op_ixTd {ds : List Dt} {v : Dt} (i : Int) (h : ds[i.toNat]? = some v) (h0 : 0 ≤ i := by decide) : Op (rIxT K) (.tup ds) (.int i) m v :=
  op_ixT (atI_n (j := i.toNat) (by omega) h)
theorem op_ixLk {α : Type} {enc : α → Dt} {xs : List α} {v : α} {a : Addr} (i : Int) (hm : m a = some (.lst (xs.map enc))) (h : xs[i.toNat]? = some v) (h0 : 0 ≤ i := by decide) : Op (rIxL K) (.ref a) (.int i) m (enc v) :=
  op_ixL hm (atI_n (j := i.toNat) (by omega) (by rw [List.getElem?_map, h]; rfl))
theorem op_ixLn {α : Type} {enc : α → Dt} {xs : List α} {v : α} {a : Addr} {i : Int} {k : Nat} (hm : m a = some (.lst (xs.map enc))) (e : i = (k : Nat)) (h : xs[k]? = some v) : Op (rIxL K) (.ref a) (.int i) m (enc v) :=
  op_ixL hm (atI_n e (by rw [List.getElem?_map, h]; rfl))
theorem op_ixL1 {α : Type} {enc : α → Dt} {xs : List α} {v : α} {a : Addr} (hm : m a = some (.lst ((xs ++ [v]).map enc))) : Op (rIxL K) (.ref a) (.int (-1)) m (enc v) := by
  refine op_ixL hm ?_
  rw [List.map_append]
  exact atI_neg1
theorem op_ixTlast {α : Type} {enc : α → Dt} {xs : List α} {v : α} : Op (rIxT K) (.tup ((xs ++ [v]).map enc)) (.int (-1)) m (enc v) := by
  refine op_ixT ?_
  rw [List.map_append]
  exact atI_neg1
theorem fin {d f : Dt} {m m' : Mp} (l : MLe m m') (e : d = f) : Wk (fun m2 => d = f ∧ m2 = m) m' := ⟨m, l, e, rfl⟩
theorem fin0 {d f : Dt} {m : Mp} (e : d = f) : Wk (fun m2 => d = f ∧ m2 = m) m := fin (MLe.refl m) e
/-- the first names of a walk's target -/
theorem ev_neg {i : Int} (h : Ev te r m (.int i)) : Ev (tUn (rU fun i => .int (-i)) te) r m (.int (-i)) := fun fr s H S Q q => h fr s H S _ fun v H1 S1 t1 r1 => by
  cases r1
  exact ⟨i, rfl, q _ H1 S1 t1 (.int _)⟩
/-! ### all([..]), any([..]) -/
theorem ev_allLc {wk : Bool} {wi : TI} {g : TG} {vs : List Nat} {α : Type} {xs : List α} {enc : α → Dt} {src : Mp → Prop} (hi : EvI wk wi r m (xs.map enc) src) (hsrc : ∀ m', MLe m m' → src m') (p : α → Bool) (b : α → Bool)
    (hg : ∀ x ∈ xs, ∃ js r2, (∀ j ∈ js, j ∈ vs) ∧ Ga wk g js (enc x) (wip r vs) r2 ∧ EvT tt r2 m (p x) ∧ (p x = true → Ev te r2 m (.bl (b x)))) (hz : xs.length ≤ 50000) :
    Ev (tCB (rAll K) (tCons (tLc wi g tt te vs) tNil)) r m (.bl ((xs.filter p).all b)) := by
  refine Ev.is (ev_cbN (en_lc hi hsrc p (fun x => .bl (b x)) hg hz) fun a na => ca_all (bs := (xs.filter p).map b) (by rw [mu_same, List.map_map]; rfl)) ?_
  rw [List.all_map]
  rfl
theorem ev_anyLc {wk : Bool} {wi : TI} {g : TG} {vs : List Nat} {α : Type} {xs : List α} {enc : α → Dt} {src : Mp → Prop} (hi : EvI wk wi r m (xs.map enc) src) (hsrc : ∀ m', MLe m m' → src m') (p : α → Bool) (b : α → Bool)
    (hg : ∀ x ∈ xs, ∃ js r2, (∀ j ∈ js, j ∈ vs) ∧ Ga wk g js (enc x) (wip r vs) r2 ∧ EvT tt r2 m (p x) ∧ (p x = true → Ev te r2 m (.bl (b x)))) (hz : xs.length ≤ 50000) :
    Ev (tCB (rAny K) (tCons (tLc wi g tt te vs) tNil)) r m (.bl ((xs.filter p).any b)) := by
  refine Ev.is (ev_cbN (en_lc hi hsrc p (fun x => .bl (b x)) hg hz) fun a na => ca_any (bs := (xs.filter p).map b) (by rw [mu_same, List.map_map]; rfl)) ?_
  rw [List.any_map]
  rfl
theorem filter_tt {α : Type} (xs : List α) : xs.filter (fun _ => true) = xs := List.filter_eq_self.mpr fun _ _ => rfl
theorem all_tt {α : Type} (xs : List α) {b : α → Bool} (h : ∀ x ∈ xs, b x = true) (p : α → Bool) : (xs.filter p).all b = true := List.all_eq_true.mpr fun x hx => h x (List.mem_filter.mp hx).1

/-! ### sorted(xs), alike data -/
theorem rep_zip {H : Hp} : ∀ {vs : List V} {ds : List Dt}, RepAll H vs ds → ∃ qs : List (V × Dt), qs.map (·.1) = vs ∧ qs.map (·.2) = ds ∧ ∀ q ∈ qs, Rep H q.1 q.2
  | _, _, .nil => ⟨[], rfl, rfl, fun _ h => nomatch h⟩
  | _, _, .cons (v := v) (d := d) r t => by
    obtain ⟨qs, h1, h2, h3⟩ := rep_zip t
    refine ⟨(v, d) :: qs, by rw [List.map_cons, h1], by rw [List.map_cons, h2], fun q hq => ?_⟩
    rcases List.mem_cons.mp hq with rfl | hq
    · exact r
    · exact h3 q hq
theorem rep_unzip {H : Hp} : ∀ (qs : List (V × Dt)), (∀ q ∈ qs, Rep H q.1 q.2) → RepAll H (qs.map (·.1)) (qs.map (·.2))
  | [], _ => .nil
  | q :: qs, h => .cons (h q List.mem_cons_self) (rep_unzip qs fun p hp => h p (List.mem_cons_of_mem _ hp))
def leD (x y : Dt) : Bool := !PySem.W.dataLt (py y) (py x)
theorem ca_sortD {a : Addr} {ds : List Dt} (hm : m a = some (.lst ds)) (hp : ∀ d ∈ ds, TB.pure d = true) (hal : PySem.W.AllAlike (ds.map py)) (hs : PySem.W.Sortable (ds.map py)) (hz : ∀ d ∈ ds, (py d).depth ≤ 60) :
    CaN (rSortD K) [.ref a] m (.lst (ds.mergeSort leD)) := fun fr r s H vs S h Q q => by
  cases h with
  | cons h1 h2 =>
    cases h2
    cases h1
    obtain ⟨xs, g1, g3⟩ := S.mst.mem a _ hm
    obtain ⟨qs, e1, e2, e3⟩ := rep_zip g3
    have e4 : (qs.map fun q => (q.1, py q.2)).map (·.2) = ds.map py := by rw [List.map_map, ← e2, List.map_map]; rfl
    refine ⟨a, qs.map fun q => (q.1, py q.2), rfl, ?_, ?_, by rw [e4]; exact hal, by rw [e4]; exact hs, ?_, fun p hn => ?_⟩
    · rw [List.map_map]
      show SqL K H a (qs.map (·.1))
      rw [e1]
      exact SqL.of g1
    · intro pq hpq
      obtain ⟨q', hq', rfl⟩ := List.mem_map.mp hpq
      exact (e3 q' hq').dp q'.2 q'.1 (hp _ (by rw [← e2]; exact List.mem_map_of_mem hq'))
    · intro pq hpq
      obtain ⟨q', hq', rfl⟩ := List.mem_map.mp hpq
      exact hz _ (by rw [← e2]; exact List.mem_map_of_mem hq')
    · have k1 : ((qs.map fun q => (q.1, py q.2)).mergeSort (PySem.W.dataLe false (·.2))).map (·.1) = (qs.mergeSort fun x y => leD x.2 y.2).map (·.1) := by
        have k0 : ((qs.mergeSort fun x y => leD x.2 y.2).map fun q => (q.1, py q.2)) = (qs.map fun q => (q.1, py q.2)).mergeSort (PySem.W.dataLe false (·.2)) := List.map_mergeSort fun _ _ _ _ => rfl
        rw [← k0, List.map_map]
        rfl
      have k2 : (qs.mergeSort fun x y => leD x.2 y.2).map (·.2) = ds.mergeSort leD := by
        rw [← e2]
        exact List.map_mergeSort fun _ _ _ _ => rfl
      rw [k1]
      refine q p _ (S.mst.free hn) (S.mst.freeF hn) (S.new hn ⟨_, upd_same, ?_⟩) (TupLe.new hn)
      rw [← k2]
      exact (rep_unzip _ fun q' hq' => e3 q' ((List.mergeSort_perm _ _).mem_iff.mp hq')).go (TupLe.new hn)
end
end TB
set_option Elab.async false
set_option linter.all false
set_option autoImplicit false
set_option maxRecDepth 100000
set_option maxHeartbeats 4000000
/-! TB: the rules of TbPe2 by data. -/
namespace TB
open PySem PySem.Spec PyProof.Rows L2 RT
section
variable {K : PySem.W.Frag} {r : Ro} {m m' : Mp} {ta tb tc te td ty tv : TE} {tt tu : TT} {x y z d : Dt} {rr : R2} {nx : Ro → Mp → Prop} {rt : Dt → Mp → Prop} {t u : TS}
/-- list(range(n - 1, -1, -1)) -/
theorem en_lstDown {tr : TA} {n : Nat} {i : Int} (h : EvA tr r m [.int i, .int (-1), .int (-1)]) (hi : i = (n : Int) - 1) (hn : n ≤ 100000) : EvN (tLstDown tr) r m (.lst ((List.range n).reverse.map fun k => .int (k : Nat))) := fun fr s H S Q q =>
  h fr s H S _ fun vs H1 S1 t1 r1 => by
    cases r1 with
    | cons r1 r2 =>
      cases r2 with
      | cons r2 r3 =>
        cases r3 with
        | cons r3 r4 =>
          cases r4
          cases r1; cases r2; cases r3
          have e : (i - -1).toNat = n := by omega
          refine ⟨i, -1, rfl, ⟨by omega, by omega, by omega, by omega, by rw [e]; exact Nat.le_trans hn (by decide)⟩, fun p hp => q p _ (S1.mst.free hp) (S1.mst.freeF hp) (S1.new hp ⟨_, upd_same, ?_⟩) (t1.trans (TupLe.new hp))⟩
          rw [e]
          have e2 : (List.range n).reverse.map (fun k => Dt.int (k : Nat)) = (List.range n).map fun k => Dt.int (i - (k : Nat)) := by
            apply List.ext_getElem
            · simp
            · intro j h1 h2
              simp only [List.length_map, List.length_reverse, List.length_range] at h1
              simp only [List.getElem_map, List.getElem_reverse, List.getElem_range, List.length_range]
              congr 1
              omega
          rw [e2]
          unfold downV
          exact RepAll.of_map _ fun k _ => .int _
theorem ev_lenSet {a : Addr} {xs : List Str} (h : Ev te r m (.ref a)) (hm : m a = some (.lst (xs.map .str))) (nd : xs.Nodup) (hz : xs.length ≤ 1000) : Ev (tLenSetN K te) r m (.int (xs.length : Nat)) := fun fr s H S Q q =>
  h fr s H S _ fun v H1 S1 t1 r1 => by
    cases r1
    obtain ⟨ys, g1, g3⟩ := S1.mst.mem a _ hm
    obtain rfl := g3.strs
    exact ⟨a, xs, rfl, SqL.of g1, hz, nd, q _ H1 S1 t1 (.int _)⟩
def sortN (l : List Nat) : List Nat := l.mergeSort fun a b => decide (a ≤ b)
theorem sortN_perm (l : List Nat) : (sortN l).Perm l := List.mergeSort_perm _ _
theorem sortN_le (l : List Nat) : (sortN l).Pairwise (· ≤ ·) :=
  (List.pairwise_mergeSort (le := fun a b : Nat => decide (a ≤ b)) (fun a b c h1 h2 => decide_eq_true (Nat.le_trans (of_decide_eq_true h1) (of_decide_eq_true h2))) (fun a b => by
    rcases Nat.le_total a b with h | h <;> simp [h]) l).imp fun h => of_decide_eq_true h
theorem sortN_ints {l : List Nat} {ys : List Int} (hp : ys.Perm (l.map fun n => ((n : Nat) : Int))) (hs : ys.Pairwise (· ≤ ·)) : ys = (sortN l).map fun n => ((n : Nat) : Int) := by
  refine List.Perm.eq_of_pairwise (le := fun a b : Int => a ≤ b) (fun a b _ _ h1 h2 => Int.le_antisymm h1 h2) hs ?_ (hp.trans ((sortN_perm l).map _).symm)
  exact (sortN_le l).map _ fun a b h => by show (a : Int) ≤ (b : Int); omega
/-- dicts by whole numbers -/
abbrev encK {α : Type} (f : α → Dt) (l : List (Nat × α)) : List (Key × Dt) := l.map fun kv => (Sum.inl ((kv.1 : Nat) : Int), f kv.2)
theorem ca_sortKeys {α : Type} {f : α → Dt} {a : Addr} {l : List (Nat × α)} (hm : m a = some (.dic (encK f l))) (hz : l.length < 64) : CaN rSortKeys [.ref a] m (.lst ((sortN (l.map (·.1))).map fun n => .int (n : Nat))) := fun fr r s H vs S h Q q => by
  cases h with
  | cons h1 h2 =>
    cases h2
    cases h1
    obtain ⟨kvs, g1, g3⟩ := S.mst.mem a _ hm
    refine ⟨a, kvs, (l.map (·.1)).map fun n => ((n : Nat) : Int), rfl, .inl g1, by rw [g3.keys]; simp [encK], by simpa using hz, fun ys p hp hs hn => ?_⟩
    rw [sortN_ints hp hs]
    refine q p _ (S.mst.free hn) (S.mst.freeF hn) (S.new hn ⟨_, upd_same, ?_⟩) (TupLe.new hn)
    rw [List.map_map]
    exact RepAll.of_map _ fun k _ => .int _
theorem valD_encK {α : Type} {f : α → Dt} {k : Nat} : ∀ (l : List (Nat × α)), valD (encK f l) (Sum.inl ((k : Nat) : Int)) = (valD l k).map f
  | [] => rfl
  | (k', v) :: l => by
    have ih := valD_encK (f := f) (k := k) l
    unfold valD at ih ⊢
    show Option.map _ (List.find? _ ((Sum.inl ((k' : Nat) : Int), f v) :: encK f l)) = _
    by_cases h : k' = k
    · subst h
      rw [List.find?_cons_of_pos (by simp), List.find?_cons_of_pos (by simp)]
      rfl
    · have h2 : ¬ ((Sum.inl ((k' : Nat) : Int) : Key) = Sum.inl ((k : Nat) : Int)) := fun e => h (by have := Sum.inl.inj e; omega)
      rw [List.find?_cons_of_neg (by simpa using h2), List.find?_cons_of_neg (by simpa using h)]
      exact ih
theorem any_encK {α : Type} {f : α → Dt} {k : Nat} (l : List (Nat × α)) : ((encK f l).any fun kv => decide (kv.1 = (Sum.inl ((k : Nat) : Int) : Key))) = l.any fun kv => decide (kv.1 = k) := by
  rw [List.any_map]
  congr 1
  funext kv
  show decide ((Sum.inl ((kv.1 : Nat) : Int) : Key) = Sum.inl ((k : Nat) : Int)) = decide (kv.1 = k)
  refine decide_eq_decide.mpr ⟨fun e => ?_, fun e => by rw [e]⟩
  have := Sum.inl.inj e
  omega
theorem putD_encK {α : Type} {f : α → Dt} {k : Nat} {v : α} (l : List (Nat × α)) : putD (encK f l) (Sum.inl ((k : Nat) : Int)) (f v) = encK f (putD l k v) := by
  unfold putD
  rw [any_encK]
  split
  · unfold encK
    rw [List.map_map, List.map_map]
    refine List.map_congr_left fun kv _ => ?_
    show (if (Sum.inl ((kv.1 : Nat) : Int) : Key) = Sum.inl ((k : Nat) : Int) then _ else _) = _
    by_cases h : kv.1 = k
    · have h2 : (Sum.inl ((kv.1 : Nat) : Int) : Key) = Sum.inl ((k : Nat) : Int) := by rw [h]
      rw [if_pos h2]
      simp [h]
    · have h2 : ¬ ((Sum.inl ((kv.1 : Nat) : Int) : Key) = Sum.inl ((k : Nat) : Int)) := fun e => h (by have := Sum.inl.inj e; omega)
      rw [if_neg h2]
      simp [h]
  · unfold encK
    rw [List.map_append]
    rfl
theorem putD_new {α : Type} {κ : Type} [DecidableEq κ] {l : List (κ × α)} {k : κ} {v : α} (h : k ∉ l.map (·.1)) : putD l k v = l ++ [(k, v)] := by
  unfold putD
  rw [if_neg]
  intro e
  obtain ⟨kv, h1, h2⟩ := List.any_eq_true.mp e
  exact h (List.mem_map.mpr ⟨kv, h1, of_decide_eq_true h2⟩)
theorem valD_isSome {α : Type} {κ : Type} [DecidableEq κ] {k : κ} (l : List (κ × α)) : (valD l k).isSome = decide (k ∈ l.map (·.1)) := by
  induction l with
  | nil => rfl
  | cons kv l ih =>
    unfold valD at ih ⊢
    by_cases h : kv.1 = k
    · rw [List.find?_cons_of_pos (by simpa using h)]
      simp [h]
    · rw [List.find?_cons_of_neg (by simpa using h), ih]
      have h' : ¬ k = kv.1 := fun e => h e.symm
      simp [h']
theorem ev_isT {ds : List Dt} (h : Ev te r m (.tup ds)) : Ev (tCB (rIsi K) (tCons te (tCons (tC (.ty "tuple")) tNil))) r m (.bl true) := ev_isi h rfl (show kitB "tuple" "tuple" = some true by decide +kernel)
theorem ev_isS {z : Str} (h : Ev te r m (.str z)) : Ev (tCB (rIsi K) (tCons te (tCons (tC (.ty "str")) tNil))) r m (.bl true) := ev_isi h rfl (show kitB "str" "str" = some true by decide +kernel)
theorem ev_isI {i : Int} (h : Ev te r m (.int i)) : Ev (tCB (rIsi K) (tCons te (tCons (tC (.ty "int")) tNil))) r m (.bl true) := ev_isi h rfl (show kitB "int" "int" = some true by decide +kernel)
theorem ev_isIB {i : Int} (h : Ev te r m (.int i)) : Ev (tCB (rIsi K) (tCons te (tCons (tC (.ty "bool")) tNil))) r m (.bl false) := ev_isi h rfl (show kitB "int" "bool" = some false by decide +kernel)
theorem cut_tail {α β : Type} (f : α → β) (xs : List α) : cut (xs.map f) (some 1) none = (xs.drop 1).map f := by
  rw [cut_map]
  exact congrArg (List.map f) (cut_a (i := 1) (a := 1) rfl)
theorem ev_tail {α : Type} {enc : α → Dt} {xs : List α} (h : Ev te r m (.tup (xs.map enc))) : Ev (tSl (rSlF K) te (tPart (tC (.int 1))) tNoPart) r m (.tup ((xs.drop 1).map enc)) :=
  Ev.is (ev_slT h (eo_some ev_ci) eo_none) (congrArg Dt.tup (cut_tail enc xs))
theorem foldl_take {α β : Type} {f : β → α → β} {b : β} {l : List α} {i : Nat} {x : α} (h : l[i]? = some x) : (l.take (i + 1)).foldl f b = f ((l.take i).foldl f b) x := by
  rw [List.take_add_one, h, List.foldl_append]
  rfl
theorem getEnc {α : Type} {enc : α → Dt} {l : List α} {i : Nat} {d : Dt} (h : (l.map enc)[i]? = some d) : ∃ x, l[i]? = some x ∧ d = enc x := by
  rw [List.getElem?_map] at h
  cases e : l[i]? with
  | none => rw [e] at h; cases h
  | some x => rw [e] at h; exact ⟨x, rfl, (Option.some.inj h).symm⟩
theorem memGet {α : Type} {l : List α} {i : Nat} {x : α} (h : l[i]? = some x) : x ∈ l := List.mem_of_getElem? h
end
end TB
set_option Elab.async false
set_option linter.all false
set_option autoImplicit false
set_option maxRecDepth 100000
set_option maxHeartbeats 4000000
/-! TB: walks over a dict's keys; comprehensions with effects; effectful expressions. -/
namespace TB
open PySem PySem.Spec PyProof.Rows L2 RT
section
variable {K : PySem.W.Frag} {r : Ro} {m m' : Mp} {ta tb tc te td ty tv : TE} {tt tu : TT} {x y z d : Dt} {rr : R2} {nx : Ro → Mp → Prop} {rt : Dt → Mp → Prop} {t u : TS}
theorem en_lock {a : Addr} {kds : List (Key × Dt)} {o : MO} (hm : m a = some (.dic kds)) (h : ∀ od kvs, EvN te r (mu m a (.loc od kvs kds)) o) : EvN (tLockE te) r m o := fun fr s H S Q q => by
  obtain ⟨kvs, g1, g3⟩ := S.mst.mem a _ hm
  refine ⟨a, .dK kvs, g1, trivial, fun od => ?_⟩
  have t1 : TupLe H (upd H a (.frz od (.dK kvs))) := TupLe.mut g1 fun _ _ z => nomatch z
  have S1 : Sto fr r (mu m a (.loc od kvs kds)) s (upd H a (.frz od (.dK kvs))) := S.mut hm ⟨upd_same, g3.go t1⟩
  refine h od kvs fr s _ S1 _ fun L H' n f S' t' => ?_
  have ne : L ≠ a := fun e => by rw [e, mu_same] at n; cases n
  have hmA : mu (mu m a (.loc od kvs kds)) L o a = some (.loc od kvs kds) := by rw [mu_ne (Ne.symm ne), mu_same]
  obtain ⟨k1, k2⟩ := S'.mst.mem a _ hmA
  refine ⟨k1, ?_⟩
  have t2 : TupLe H' (upd H' a (.dK kvs)) := TupLe.mut k1 fun _ _ z => nomatch z
  have S2 := S'.mut (o' := .dic kds) (u := .dK kvs) hmA ⟨kvs, upd_same, k2.go t2⟩
  have e : mu (mu (mu m a (.loc od kvs kds)) L o) a (.dic kds) = mu m L o := by
    rw [mu_comm (Ne.symm ne), mu_mu, mu_comm ne, mu_eta hm]
  rw [e] at S2
  rw [mu_ne ne] at n
  exact q L _ n f S2 ((t1.trans t').trans t2)
/-- for k in d, d locked -/
theorem ei_keys {a : Addr} {od : Obj} {kvs : List (Key × V)} {kds : List (Key × Dt)} (h : Ev td r m (.ref a)) (hm : m a = some (.loc od kvs kds)) : EvI false (iKeys td) r m (kds.map fun kd => kD kd.1) (fun m' => m' a = some (.loc od kvs kds)) := fun fr s H S R q => h fr s H S _ fun v H1 S1 t1 r1 => by
  cases r1
  obtain ⟨g1, g3⟩ := S1.mst.mem a _ hm
  have hk := g3.keys
  have hl := g3.length
  refine ⟨a, od, rfl, .inl ⟨kvs, g1, q _ fr H1 (fun _ _ e => e) S1 t1 ⟨fun i m' r' s' H' hi S' hs t' => ?_, fun i m' r' s' H' x H2 hi S' hs t' y => ?_, fun m' r' s' H' S' hs t' => ?_⟩⟩⟩
  · obtain ⟨k1, _⟩ := S'.mst.mem a _ hs
    exact ⟨k1, by rw [hl]; simpa using hi⟩
  · obtain ⟨rfl, k, v, e, rfl⟩ := y
    refine ⟨kD k, ?_, S', TupLe.refl _, kD_rep k⟩
    have e1 : (kvs.map (·.1))[i]? = some k := by rw [List.getElem?_map, e]; rfl
    rw [hk, List.getElem?_map] at e1
    rw [List.getElem?_map]
    cases e2 : kds[i]? with
    | none => rw [e2] at e1; cases e1
    | some kd =>
      rw [e2] at e1
      have e3 : kd.1 = k := Option.some.inj e1
      show some (kD kd.1) = some (kD k)
      rw [e3]
  · obtain ⟨k1, _⟩ := S'.mst.mem a _ hs
    exact ⟨k1, by rw [hl]; simp⟩
theorem keys_encK {α : Type} {f : α → Dt} (l : List (Nat × α)) : (encK f l).map (fun kd => kD kd.1) = (l.map (·.1)).map fun n => Dt.int ((n : Nat) : Int) := by
  rw [List.map_map, List.map_map]
  rfl
/-- [k for k in d if ..] -/
theorem en_keysLc {α : Type} {f : α → Dt} {a : Addr} {l : List (Nat × α)} {g : TG} {vs : List Nat} (h : ∀ m', Ev td r m' (.ref a)) (hm : m a = some (.dic (encK f l))) (p : Nat → Bool)
    (hg : ∀ x ∈ l.map (·.1), ∃ js r2, (∀ j ∈ js, j ∈ vs) ∧ Ga false g js (.int ((x : Nat) : Int)) (wip r vs) r2 ∧ (∀ m', EvT tt r2 m' (p x)) ∧ (∀ m', Ev te r2 m' (.int ((x : Nat) : Int)))) (hz : l.length ≤ 50000) :
    EvN (tLockE (tLc (iKeys td) g tt te vs)) r m (.lst (((l.map (·.1)).filter p).map fun n => .int ((n : Nat) : Int))) := by
  refine en_lock hm fun od kvs => en_lc (wk := false) (xs := l.map (·.1)) (enc := fun n : Nat => Dt.int ((n : Nat) : Int)) (src := fun m' => m' a = some (.loc od kvs (encK f l))) ?_ (fun m' l => l _ _ mu_same) p (fun n => .int ((n : Nat) : Int)) (fun x hx => ?_) (by simpa using hz)
  · rw [← keys_encK (f := f)]
    exact ei_keys (h _) mu_same
  · obtain ⟨js, r2, h1, h2, h3, h4⟩ := hg x hx
    exact ⟨js, r2, h1, h2, h3 _, fun _ => h4 _⟩
/-! ### ranges -/
def rangeN (lo hi : Nat) : List Nat := (List.range (hi - lo)).map (lo + ·)
theorem mem_rangeN {lo hi x : Nat} : x ∈ rangeN lo hi ↔ lo ≤ x ∧ x < hi := by
  unfold rangeN
  rw [List.mem_map]
  constructor
  · rintro ⟨k, hk, rfl⟩
    rw [List.mem_range] at hk
    omega
  · rintro ⟨h1, h2⟩
    exact ⟨x - lo, List.mem_range.mpr (by omega), by omega⟩
theorem ei_rngN {tr : TA} {lo hi : Nat} {i j : Int} (h : EvA tr r m [.int i, .int j]) (e1 : i = (lo : Nat)) (e2 : j = (hi : Nat)) (h1 : lo ≤ 100000 ∧ hi ≤ 100000) : EvI false (iRng2 tr) r m ((rangeN lo hi).map fun n => Dt.int ((n : Nat) : Int)) (fun _ => True) := by
  subst e1; subst e2
  have e : ((rangeN lo hi).map fun n => Dt.int ((n : Nat) : Int)) = (List.range (((hi : Nat) : Int) - (lo : Nat)).toNat).map fun k => Dt.int (((lo : Nat) : Int) + (k : Nat)) := by
    unfold rangeN
    rw [List.map_map]
    have : (((hi : Nat) : Int) - (lo : Nat)).toNat = hi - lo := by omega
    rw [this]
    refine List.map_congr_left fun k _ => ?_
    show Dt.int (((lo + k : Nat) : Nat) : Int) = _
    rw [Int.natCast_add]
  rw [e]
  exact ei_rng2 h (by omega)
theorem ei_rng0 {tr : TA} {n : Nat} {i : Int} (h : EvA tr r m [.int i]) (e1 : i = (n : Nat)) (h1 : n ≤ 100000) : EvI false (iRng1 tr) r m ((List.range n).map fun n => Dt.int ((n : Nat) : Int)) (fun _ => True) := by
  subst e1
  have e : ((List.range n).map fun n => Dt.int ((n : Nat) : Int)) = (List.range ((n : Nat) : Int).toNat).map fun k => Dt.int (0 + (k : Nat)) := by
    rw [Int.toNat_natCast]
    refine List.map_congr_left fun k _ => ?_
    rw [Int.zero_add]
  rw [e]
  exact ei_rng1 h (by omega)
theorem ei_revN {n : Nat} (h : Ev te r m (.int ((n : Nat) : Int))) (h1 : n ≤ 100000) : EvI false (iRevR (tRg1 te)) r m ((List.range n).reverse.map fun n => Dt.int ((n : Nat) : Int)) (fun _ => True) := by
  have e : ((List.range n).reverse.map fun n => Dt.int ((n : Nat) : Int)) = (List.range ((n : Nat) : Int).toNat).map fun k => Dt.int (((n : Nat) : Int) - 1 - (k : Nat)) := by
    apply List.ext_getElem
    · simp
    · intro j h1 h2
      simp only [List.length_map, List.length_reverse, List.length_range] at h1
      simp only [List.getElem_map, List.getElem_reverse, List.getElem_range, List.length_range]
      congr 1
      omega
  rw [e]
  exact ei_revR1 h (by omega)
end
end TB
set_option Elab.async false
set_option linter.all false
set_option autoImplicit false
set_option maxRecDepth 100000
set_option maxHeartbeats 4000000
/-! TB: expressions that change what is told. -/
namespace TB
open PySem PySem.Spec PyProof.Rows L2 RT
section
variable {K : PySem.W.Frag} {r : Ro} {m m' : Mp} {ta tb tc te td ty tv : TE} {tt tu : TT} {x y z d : Dt} {rr : R2} {nx : Ro → Mp → Prop} {rt : Dt → Mp → Prop} {t u : TS}
theorem EvX.imp {P R : Dt → Mp → Prop} (h : EvX te r m P) (k : ∀ d m', P d m' → R d m') : EvX te r m R := fun fr s H S Q q => h fr s H S Q fun v d m' H' hp => q v d m' H' (k d m' hp)
theorem EvX.wk {P R : Dt → Mp → Prop} (h : EvX te r m P) (k : ∀ d m', P d m' → ∃ m2, MLe m2 m' ∧ R d m2) : EvX te r m R := fun fr s H S Q q => h fr s H S Q fun v d m' H' hp S' t' rv => by
  obtain ⟨m2, l, hr⟩ := k d m' hp
  exact q v d m2 H' hr (S'.less l) t' rv
theorem ex_ev {R : Dt → Mp → Prop} (h : Ev te r m d) (k : R d m) : EvX te r m R := fun fr s H S Q q => h fr s H S Q fun v H' S' t' rv => q v d m H' k S' t' rv
theorem ex_en {R : Dt → Mp → Prop} {o : MO} (h : EvN te r m o) (k : ∀ a, m a = none → R (.ref a) (mu m a o)) : EvX te r m R := fun fr s H S Q q => h fr s H S Q fun a H' n f S' t' => q (.ref a) (.ref a) _ H' (k a n) S' t' (.ref a)
theorem ex_op {P R : Dt → Mp → Prop} {T : Dt → Dt → Mp → Prop} (ha : EvX ta r m P) (hb : ∀ x m1, P x m1 → EvX tb r m1 (T x)) (ho : ∀ x y m2, T x y m2 → ∃ z, Op rr x y m2 z ∧ R z m2) : EvX (tOp rr ta tb) r m R := fun fr s H S Q q =>
  ha fr s H S _ fun vx x m1 H1 p1 S1 t1 r1 => hb x m1 p1 fr s H1 S1 _ fun vy y m2 H2 p2 S2 t2 r2 => by
    obtain ⟨z, h, hr⟩ := ho x y m2 p2
    exact h fr r s H2 vx vy S2 (r1.go t2) r2 Q fun v H3 S3 t3 r3 => q v z m2 H3 hr S3 ((t1.trans t2).trans t3) r3
theorem eax_nil {R : List Dt → Mp → Prop} (k : R [] m) : EvAX tNil r m R := fun fr s H S Q q => q [] [] m H k S (TupLe.refl H) .nil
theorem eax_cons {P : Dt → Mp → Prop} {R : List Dt → Mp → Prop} {tr : TA} (h : EvX te r m P) (hr : ∀ d m1, P d m1 → EvAX tr r m1 (fun ds m2 => R (d :: ds) m2)) : EvAX (tCons te tr) r m R := fun fr s H S Q q =>
  h fr s H S _ fun v d m1 H1 p1 S1 t1 r1 => hr d m1 p1 fr s H1 S1 _ fun vs ds m2 H2 p2 S2 t2 r2 => q (v :: vs) (d :: ds) m2 H2 p2 S2 (t1.trans t2) (.cons (r1.go t2) r2)
theorem eax_ev {R : List Dt → Mp → Prop} {tr : TA} {ds : List Dt} (h : EvA tr r m ds) (k : R ds m) : EvAX tr r m R := fun fr s H S Q q => h fr s H S Q fun vs H' S' t' rv => q vs ds m H' k S' t' rv
theorem ex_tup {tr : TA} {R : Dt → Mp → Prop} (h : EvAX tr r m (fun ds m' => ds.length ≤ 100000 ∧ R (.tup ds) m')) : EvX (tTupF tr) r m R := fun fr s H S Q q =>
  h fr s H S _ fun vs ds m' H1 p1 S1 t1 r1 => ⟨by rw [r1.length]; exact sz_of p1.1, frt S1 r1 fun v H2 S2 t2 r2 => q v _ m' H2 p1.2 S2 (t1.trans t2) r2⟩
theorem ex_cb {rc : RC1} {tr : TA} {P : List Dt → Mp → Prop} {R : Dt → Mp → Prop} (h : EvAX tr r m P) (hc : ∀ ds m', P ds m' → ∃ z, Ca rc ds m' z ∧ R z m') : EvX (tCB rc tr) r m R := fun fr s H S Q q =>
  h fr s H S _ fun vs ds m' H1 p1 S1 t1 r1 => by
    obtain ⟨z, h, hr⟩ := hc ds m' p1
    exact h fr r s H1 vs S1 r1 Q fun v H2 S2 t2 r2 => q v z m' H2 hr S2 (t1.trans t2) r2
theorem ex_cbN {rc : RC1} {tr : TA} {P : List Dt → Mp → Prop} {R : Dt → Mp → Prop} (h : EvAX tr r m P) (hc : ∀ ds m', P ds m' → ∃ o, CaN rc ds m' o ∧ ∀ a, m' a = none → R (.ref a) (mu m' a o)) : EvX (tCB rc tr) r m R := fun fr s H S Q q =>
  h fr s H S _ fun vs ds m' H1 p1 S1 t1 r1 => by
    obtain ⟨o, h, hr⟩ := hc ds m' p1
    exact h fr r s H1 vs S1 r1 Q fun a H2 n f S2 t2 => q (.ref a) (.ref a) _ H2 (hr a n) S2 (t1.trans t2) (.ref a)
theorem ex_callX {ι : Type} {ds : ι → List Dt} {pre : ι → Mp → Prop} {post : ι → Mp → Dt → Mp → Prop} {E : XK} {tr : TA} {P : List Dt → Mp → Prop} {R : Dt → Mp → Prop} (h : EvAX tr r m P) (hc : ∀ es m', P es m' → ∃ i, es = ds i ∧ pre i m' ∧ ∀ d m2, post i m' d m2 → R d m2) :
    EvX (tCall (spOf ds pre post) [] E tr) r m R := fun fr s H S Q q =>
  h fr s H S _ fun vs es m1 H1 p1 S1 t1 r1 => by
    obtain ⟨i, rfl, hp, hr⟩ := hc es m1 p1
    show spOf ds pre post (vs ++ []) H1 Q E
    rw [List.append_nil]
    exact ⟨fr, i, m1, S1.mst, r1, hp, fun d m' v H2 hq hm t2 r2 => q v d m' H2 (hr d m' hq) (S1.back t2 hm) (t1.trans t2) r2⟩
theorem etx_test {P : Dt → Mp → Prop} {R : Bool → Mp → Prop} (h : EvX te r m P) (k : ∀ d m', P d m' → ∃ b, d = .bl b ∧ R b m') : EvTX (tTest te) r m R := fun fr s H S Q q => h fr s H S _ fun v d m' H1 p1 S1 t1 r1 => by
  obtain ⟨b, rfl, hr⟩ := k d m' p1
  cases r1
  exact ⟨b, rfl, q b m' H1 hr S1 t1⟩
theorem etx_B {P : Dt → Mp → Prop} {R : Bool → Mp → Prop} (h : EvX te r m P) (k : ∀ d m', P d m' → ∃ b, d = .bl b ∧ R b m') : EvTX (tB te) r m R := fun fr s H S Q q => h fr s H S _ fun v d m' H1 p1 S1 t1 r1 => by
  obtain ⟨b, rfl, hr⟩ := k d m' p1
  cases r1
  exact ⟨b, rfl, q b m' H1 hr S1 t1⟩
theorem etx_et {b : Bool} {R : Bool → Mp → Prop} (h : EvT tt r m b) (k : R b m) : EvTX tt r m R := fun fr s H S Q q => h fr s H S Q fun H' S' t' => q b m H' k S' t'
theorem Sto.fromF {fr : Hp} {s : L2.St} {H : Hp} {L : Addr} {o : MO} {w : HO} (S : Sto (addF fr L w) r m s H) (f : fr L = none) (ro : RepM H L o) : Sto fr r (mu m L o) s H := by
  refine ⟨⟨fun a o' e => ?_, fun a o' e => S.mst.frm a o' (addF_le f a o' e), fun a o' e => ?_⟩, S.len, S.slot⟩
  · by_cases z : a = L
    · subst z; rw [mu_same] at e; cases e; exact ro
    · rw [mu_ne z] at e; exact S.mst.mem a o' e
  · by_cases z : a = L
    · subst z; exact f
    · rw [mu_ne z] at e
      have := S.mst.sep a o' e
      unfold addF at this
      rw [if_neg z] at this
      exact this
theorem addF_same {fr : Hp} {L : Addr} {w : HO} : addF fr L w L = some w := by unfold addF; rw [if_pos rfl]
/-- a list comprehension whose parts may change what is told -/
theorem ex_lc {wk : Bool} {wi : TI} {g : TG} {vs : List Nat} {ds : List Dt} {src : Mp → Prop} (hi : EvI wk wi r m ds src) (W : Nat → List Dt → Mp → Prop) (h0 : W 0 [] m) (hsrc : ∀ i acc m', W i acc m' → ∀ m2, MLe m' m2 → src m2)
    (hs : ∀ i d acc m', ds[i]? = some d → W i acc m' → acc.length < 100000 ∧ ∃ js r2, (∀ j ∈ js, j ∈ vs) ∧ Ga wk g js d (wip r vs) r2 ∧ EvTX tt r2 m' (fun b m1 => if b = true then EvX te r2 m1 (fun e m2 => W (i + 1) (acc ++ [e]) m2) else W (i + 1) acc m1)) :
    EvX (tLc wi g tt te vs) r m (fun d m' => ∃ L acc m1, W ds.length acc m1 ∧ m1 L = none ∧ d = .ref L ∧ m' = mu m1 L (.lst acc)) := by
  intro fr s H S Q q
  refine hi fr s H S _ fun J fr' H1 lf S1 t1 Y => fun L hL => ?_
  have nL := S1.mst.free hL
  have fL : fr' L = none := S1.mst.freeF hL
  have S2 : Sto fr' r (mu m L (.lst [])) s (upd H1 L (.lst [])) := S1.new hL ⟨[], upd_same, .nil⟩
  have tL : TupLe H1 (upd H1 L (.lst [])) := TupLe.new hL
  refine ⟨fun i n H' => n = ds.length - i ∧ i ≤ ds.length ∧ ∃ acc m', W i acc m' ∧ m' L = none ∧ Sto fr' r (mu m' L (.lst acc)) s H' ∧ TupLe H1 H', ⟨ds.length, by simp, Nat.zero_le _, [], m, h0, nL, S2, tL⟩, ?_⟩
  rintro i n H' ⟨rfl, hle, acc, m', hW, nL', S', t'⟩
  have hs2 := hsrc i acc m' hW _ (MLe.new (o := .lst acc) nL')
  by_cases hlt : i < ds.length
  · refine .inr ⟨Y.go i _ r s H' hlt S' hs2 t', fun H2 => ∃ acc m', W (i + 1) acc m' ∧ m' L = none ∧ Sto fr' r (mu m' L (.lst acc)) s H2 ∧ TupLe H1 H2, fun H2 ⟨acc2, m2, w1, w2, w3, w4⟩ => ⟨ds.length - (i + 1), by omega, rfl, hlt, acc2, m2, w1, w2, w3, w4⟩, fun x H2 y => ?_⟩
    obtain ⟨e, he, S3, t3, rk⟩ := Y.yld i _ r s H' x H2 hlt S' hs2 t' y
    obtain ⟨hz, js, r2, hj, hg, ht⟩ := hs i e acc m' he hW
    refine hg fr' _ _ H2 x (S3.wip vs) rk _ fun s3 S4 w4 => ⟨by rw [w4 vs hj]; exact wipe_wipe, ?_⟩
    obtain ⟨xs, k1, k2⟩ := S4.mst.mem L _ mu_same
    have S5 : Sto (addF fr' L (.lst xs)) r2 m' s3 H2 := S4.toF nL' k1
    refine ht _ s3 H2 S5 _ fun b m1 H3 hb S6 t6 => ?_
    have k3 : H3 L = some (.lst xs) := S6.mst.frm L _ addF_same
    have n1 : m1 L = none := by
      cases e : m1 L with
      | none => rfl
      | some o => have := S6.mst.sep L o e; rw [addF_same] at this; cases this
    cases b with
    | false =>
      have S7 : Sto fr' r2 (mu m1 L (.lst acc)) s3 H3 := S6.fromF fL ⟨xs, k3, k2.go t6⟩
      exact ⟨acc, m1, hb, n1, S3.at t6 S7.mst, (t'.trans t3).trans t6⟩
    | true =>
      refine hb _ s3 H3 S6 _ fun y e2 m2 H4 hw S8 t8 r8 => ?_
      have k4 : H4 L = some (.lst xs) := S8.mst.frm L _ addF_same
      have n2 : m2 L = none := by
        cases e : m2 L with
        | none => rfl
        | some o => have := S8.mst.sep L o e; rw [addF_same] at this; cases this
      have rep4 := (k2.go t6).go t8
      have S9 : Sto fr' r2 (mu m2 L (.lst acc)) s3 H4 := S8.fromF fL ⟨xs, k4, rep4⟩
      refine ⟨xs, k4, by rw [rep4.length]; exact sz_lt hz, acc ++ [e2], m2, hw, n2, ?_⟩
      obtain ⟨S10, t10⟩ := mut_lst S9 mu_same k4 (rep4.snoc r8)
      rw [mu_mu] at S10
      exact ⟨S3.at ((t6.trans t8).trans t10) S10.mst, (t'.trans t3).trans ((t6.trans t8).trans t10)⟩
  · have e : i = ds.length := by omega
    subst e
    refine .inl ⟨Y.stop _ r s H' S' hs2 t', ?_⟩
    exact q (.ref L) (.ref L) _ H' ⟨L, acc, m', hW, nL', rfl, rfl⟩ (S'.lessF lf) (t1.trans t') (.ref L)
/-! ### lists joined -/
theorem op_catL {a b : Addr} {ds es : List Dt} (ha : m a = some (.lst ds)) (hb : m b = some (.lst es)) (hz : ds.length + es.length ≤ 100000) : OpN rCat (.ref a) (.ref b) m (.lst (ds ++ es)) := fun fr r s H vx vy S hx hy Q q => by
  cases hx; cases hy
  obtain ⟨xs, g1, g3⟩ := S.mst.mem a _ ha
  obtain ⟨ys, k1, k3⟩ := S.mst.mem b _ hb
  exact ⟨a, b, xs, ys, rfl, rfl, g1, k1, by rw [g3.length, k3.length]; exact sz_of hz, fun p hp => q p _ (S.mst.free hp) (S.mst.freeF hp) (S.new hp ⟨_, upd_same, (g3.append k3).go (TupLe.new hp)⟩) (TupLe.new hp)⟩
/-- a promise of a value that leans on what is told -/
abbrev spM {ι : Type} (ds : ι → List Dt) (pre : ι → Mp → Prop) (f : ι → Dt) : Sp := spOf ds pre (fun i m d m' => d = f i ∧ m' = m)
theorem ev_callM {ι : Type} {ds : ι → List Dt} {pre : ι → Mp → Prop} {f : ι → Dt} {E : XK} {tr : TA} {es : List Dt} (i : ι) (h : EvA tr r m es) (he : es = ds i) (hp : pre i m) : Ev (tCall (spM ds pre f) [] E tr) r m (f i) := fun fr s H S Q q =>
  ex_call i h he hp fr s H S Q fun v d m' H' hq S' t' r' => by
    obtain ⟨rfl, rfl⟩ := hq
    exact q v H' S' t' r'
theorem mergeD_app {κ α : Type} [DecidableEq κ] : ∀ (more kds : List (κ × α)), (kds.map (·.1) ++ more.map (·.1)).Nodup → mergeD kds more = kds ++ more
  | [], kds, _ => by simp [mergeD]
  | (k, v) :: more, kds, h => by
    show mergeD (putD kds k v) more = _
    rw [List.map_cons] at h
    have hk : k ∉ kds.map (·.1) := fun hm => (List.nodup_append.mp h).2.2 k hm k List.mem_cons_self rfl
    rw [putD_new hk, mergeD_app more (kds ++ [(k, v)])]
    · simp
    · simpa using h
theorem mergeD_nil {κ α : Type} [DecidableEq κ] {kds : List (κ × α)} (h : (kds.map (·.1)).Nodup) : mergeD [] kds = kds := by rw [mergeD_app kds [] (by simpa using h)]; rfl
theorem ex_cbX {rc : RC1} {P R : Dt → Mp → Prop} (h : EvX te r m P) (hc : ∀ d m', P d m' → ∃ o, CaN rc [d] m' o ∧ ∀ a, m' a = none → R (.ref a) (mu m' a o)) : EvX (tCB rc (tCons te tNil)) r m R :=
  ex_cbN (P := fun ds m' => ∃ d, ds = [d] ∧ P d m') (eax_cons h fun d m1 hp => eax_nil ⟨d, rfl, hp⟩) fun ds m' ⟨d, e, hp⟩ => by subst e; exact hc d m' hp
theorem ex_cbV {rc : RC1} {P R : Dt → Mp → Prop} (h : EvX te r m P) (hc : ∀ d m', P d m' → ∃ z, Ca rc [d] m' z ∧ R z m') : EvX (tCB rc (tCons te tNil)) r m R :=
  ex_cb (P := fun ds m' => ∃ d, ds = [d] ∧ P d m') (eax_cons h fun d m1 hp => eax_nil ⟨d, rfl, hp⟩) fun ds m' ⟨d, e, hp⟩ => by subst e; exact hc d m' hp
end
end TB
set_option Elab.async false
set_option linter.all false
set_option autoImplicit false
set_option maxRecDepth 100000
set_option maxHeartbeats 4000000
/-! TB: the script; great numbers; insert. -/
namespace TB
open PySem PySem.Spec PyProof.Rows L2 RT
section
variable {K : PySem.W.Frag} {r : Ro} {m m' : Mp} {ta tb tc te td ty tv : TE} {tt tu : TT} {x y z d : Dt} {rr : R2} {nx : Ro → Mp → Prop} {rt : Dt → Mp → Prop} {t u : TS}
/-- the script at a holds ns -/
def ScrAt (K : PySem.W.Frag) (m : Mp) (a : Addr) (ns : List Int) : Prop := (∃ o, m a = some (.frl o ns)) ∨
  ∃ (o : Obj) (its : Array Value) (n : Nat), K.lookup a = some o ∧ o.cls = .type "list" ∧ o.dict = none ∧ o.data = .seq its n ∧ its.size ≤ sizeLine ∧ Vals (ns.map V.int) its.toList
theorem ScrAt.seq {fr : Hp} {s : L2.St} {H : Hp} {a : Addr} {ns : List Int} (h : ScrAt K m a ns) (S : Sto fr r m s H) : SqL K H a (ns.map V.int) := by
  rcases h with ⟨o, h⟩ | h
  · exact .inl (.inr ⟨o, S.mst.mem a _ h⟩)
  · exact .inr h
theorem op_ixSc {a : Addr} {ns : List Int} {i : Int} {z : Int} (hs : ScrAt K m a ns) (h : atI ns i = some z) : Op (rIxL K) (.ref a) (.int i) m (.int z) := fun fr r s H vx vy S hx hy Q q => by
  cases hx; cases hy
  refine ⟨a, _, i, .int z, rfl, rfl, hs.seq S, ?_, q _ H S (TupLe.refl H) (.int z)⟩
  unfold atI at h ⊢
  rw [List.length_map]
  cases e : ixN ns.length i with
  | none => rw [e] at h; cases h
  | some j =>
    rw [e] at h
    have h' : ns[j]? = some z := h
    show (ns.map V.int)[j]? = _
    rw [List.getElem?_map, h']
    rfl
theorem ca_lenSc {a : Addr} {ns : List Int} (hs : ScrAt K m a ns) : Ca (rLenQ K) [.ref a] m (.int (ns.length : Nat)) := fun fr r s H vs S h Q q => by
  cases h with
  | cons h1 h2 =>
    cases h2; cases h1
    refine ⟨a, _, rfl, .inl (hs.seq S), ?_⟩
    rw [List.length_map]
    exact q _ H S (TupLe.refl H) (.int _)
theorem en_slSc {tl th : TO} {a : Addr} {ns : List Int} {lo hi : Option Int} (h : Ev te r m (.ref a)) (hs : ScrAt K m a ns) (hl : EvO tl r m lo) (hh : EvO th r m hi) : EvN (tSl (rSlL K) te tl th) r m (.lst ((cut ns lo hi).map .int)) := fun fr s H S Q q =>
  h fr s H S _ fun v H1 S1 t1 r1 => hl fr s H1 S1 _ fun H2 S2 t2 => hh fr s H2 S2 _ fun H3 S3 t3 => by
    cases r1
    refine ⟨a, _, rfl, hs.seq S3, fun p hp => q p _ (S3.mst.free hp) (S3.mst.freeF hp) (S3.new hp ⟨_, upd_same, ?_⟩) (((t1.trans t2).trans t3).trans (TupLe.new hp))⟩
    have e : cutV (ns.map V.int) lo hi = (cut ns lo hi).map V.int := by
      show cut (ns.map V.int) lo hi = _
      rw [cut_map]
    rw [e]
    exact RepAll.of_map _ fun z _ => .int z
/-! ### great numbers -/
theorem abs_lt {i : Int} {b : Nat} (h0 : 0 ≤ i) (h : i < 2 ^ b) : i.natAbs < 2 ^ b := by
  have e : ((i.natAbs : Nat) : Int) = i := Int.natAbs_of_nonneg h0
  have h' : ((i.natAbs : Nat) : Int) < ((2 ^ b : Nat) : Int) := by rw [e, Int.natCast_pow]; exact h
  exact Int.ofNat_lt.mp h'
theorem op_mulB {i j : Int} (a b : Nat) (hi : 0 ≤ i) (hi2 : i < 2 ^ a) (hj : 0 ≤ j) (hj2 : j < 2 ^ b) (ha : 0 < a := by decide) (hb : 0 < b := by decide) (hab : a + b ≤ 1000000 := by decide) : Op (rI CMulW fun i j => .int (i * j)) (.int i) (.int j) m (.int (i * j)) :=
  op_Ii (f := fun i j => i * j) (wide_mul (abs_lt hi hi2) (abs_lt hj hj2) ha hb hab)
theorem mul_lt {i j : Int} {a b : Nat} (hi : 0 ≤ i) (hi2 : i < 2 ^ a) (hj : 0 ≤ j) (hj2 : j < 2 ^ b) : 0 ≤ i * j ∧ i * j < 2 ^ (a + b) := by
  refine ⟨Int.mul_nonneg hi hj, ?_⟩
  have h := wide_lt (abs_lt hi hi2) (abs_lt hj hj2)
  have e : (((i * j).natAbs : Nat) : Int) = i * j := Int.natAbs_of_nonneg (Int.mul_nonneg hi hj)
  have h' : (((i * j).natAbs : Nat) : Int) < ((2 ^ (a + b) : Nat) : Int) := Int.ofNat_lt.mpr h
  rw [e, Int.natCast_pow] at h'
  exact h'
theorem op_divB {i j : Int} (b : Nat) (hj : 0 < j) (hj2 : j < 2 ^ b) (hb : 0 < b := by decide) (hb2 : b ≤ 9000 := by decide) : Op (rI CDivW fun i j => .int (i / j)) (.int i) (.int j) m (.int (i / j)) :=
  op_Ii (f := fun i j => i / j) (wide_div hj (abs_lt (by omega) hj2) hb hb2)
theorem op_modP {i j : Int} (hj : 0 < j) : Op (rI (fun _ j => 0 < j) fun i j => .int (i % j)) (.int i) (.int j) m (.int (i % j)) := op_Ii (f := fun i j => i % j) hj
theorem op_powS {i j : Int} (h : CPow i j) : Op (rI CPow fun i j => .int (i ^ j.toNat)) (.int i) (.int j) m (.int (i ^ j.toNat)) := op_Ii (f := fun i j => i ^ j.toNat) h
theorem ca_abs {i : Int} : Ca rAbs [.int i] m (.int (if i < 0 then -i else i)) := fun fr r s H vs S h Q q => by
  cases h with
  | cons h1 h2 =>
    cases h2; cases h1
    exact ⟨i, rfl, q _ H S (TupLe.refl H) (.int _)⟩
theorem ca_intB {b : Bool} : Ca rInt1 [.bl b] m (.int (if b then 1 else 0)) := fun fr r s H vs S h Q q => by
  cases h with
  | cons h1 h2 =>
    cases h2; cases h1
    exact .inr ⟨b, rfl, q _ H S (TupLe.refl H) (.int _)⟩
/-- xs.insert(i, e), what is given may change the told -/
theorem s_insX {a : Addr} {tr : TA} {P : List Dt → Mp → Prop} (ho : Ev ta r m (.ref a)) (hm : ∃ ds, m a = some (.lst ds)) (h : EvAX tr r m P) (k : ∀ ds m', P ds m' → ∃ es i y, ds = [.int ((i : Nat) : Int), y] ∧ m' a = some (.lst es) ∧ es.length < 100000 ∧ i < 100000 ∧ nx r (mu m' a (.lst (es.take i ++ [y] ++ es.drop i)))) : St (tDrop (tBM K "list" rInsert ta tr)) nx rt r m := fun fr s H D S k1 k2 =>
  ho fr s H S _ fun v H1 S1 t1 r1 => by
    cases r1
    obtain ⟨ds0, hm⟩ := hm
    obtain ⟨xs0, g1, g3⟩ := S1.mst.mem a _ hm
    refine ⟨.inl ⟨rfl, xs0, SqL.of g1⟩, h fr s H1 S1 _ fun vs ds m' H2 hp S2 t2 r2 => ?_⟩
    obtain ⟨es, i, y, rfl, hm2, hz, hi, kk⟩ := k ds m' hp
    obtain ⟨ys, g4, g5⟩ := S2.mst.mem a _ hm2
    cases r2 with
    | cons r2 r3 =>
      cases r3 with
      | cons r3 r4 =>
        cases r4
        cases r2
        obtain ⟨S3, t3⟩ := mut_lst S2 hm2 g4 (((g5.take i).append (.cons r3 .nil)).append (g5.drop i))
        exact ⟨a, ys, _, _, rfl, rfl, g4, by rw [g5.length]; exact sz_lt hz, by omega, by omega, k1 r _ s _ kk S3 ((t1.trans t2).trans t3)⟩
/-- xs[i] = e -/
theorem s_setX {a : Addr} {P : Dt → Mp → Prop} (hv : Ev te r m d) (ho : Ev ta r m (.ref a)) (hi : EvX tb r m P) (k : ∀ e m', P e m' → ∃ (j : Nat) (ds : List Dt), e = .int ((j : Nat) : Int) ∧ m' a = some (.lst ds) ∧ j < ds.length ∧ nx r (mu m' a (.lst (ds.set j d)))) : St (tAsg te (gSub ta tb rSetL)) nx rt r m := fun fr s H D S k1 k2 =>
  hv fr s H S _ fun v H1 S1 t1 r1 => ho fr s H1 S1 _ fun w H2 S2 t2 r2 => hi fr s H2 S2 _ fun u e m' H3 hp S3 t3 r3 => by
    obtain ⟨j, ds, rfl, hm, hj, kk⟩ := k e m' hp
    cases r2
    cases r3
    obtain ⟨xs, g1, g3⟩ := S3.mst.mem a _ hm
    obtain ⟨S4, t4⟩ := mut_lst S3 hm g1 (g3.set ((r1.go t2).go t3) j)
    exact ⟨a, xs, _, j, rfl, rfl, g1, ixN_nt (by rw [g3.length]; exact hj), k1 r _ s _ kk S4 (((t1.trans t2).trans t3).trans t4)⟩
theorem s_asgG2 {g : TG} {P : Dt → Mp → Prop} (h : EvX te r m P) (k : ∀ d m', P d m' → ∃ js r', Ga false g js d r r' ∧ nx r' m') : St (tAsg te g) nx rt r m := s_asgGX h k
theorem s_ifX {R : Bool → Mp → Prop} (h : EvTX tt r m R) (k : ∀ b m', R b m' → if b = true then St t nx rt r m' else St u nx rt r m') : St (tIfS tt t u) nx rt r m := fun fr s H D S k1 k2 =>
  h fr s H S _ fun b m' H1 hb S1 t1 => by
    have g1 : ∀ r' m' s' H', nx r' m' → Sto fr r' m' s' H' → TupLe H1 H' → D.nx s' H' := fun r2 m2 s2 H2 h2 S2 t2 => k1 r2 m2 s2 H2 h2 S2 (t1.trans t2)
    have g2 : ∀ d m' v H', rt d m' → MSt fr m' H' → TupLe H1 H' → Rep H' v d → D.rt v H' := fun d m2 v H2 h2 S2 t2 r2 => k2 d m2 v H2 h2 S2 (t1.trans t2) r2
    have hk := k b m' hb
    cases b with
    | true => exact hk fr s H1 D S1 g1 g2
    | false => exact hk fr s H1 D S1 g1 g2
/-- a range whose bound changes what is told -/
def EvIX (wk : Bool) (wi : TI) (r : Ro) (m : Mp) (P : List Dt → Mp → Prop) : Prop := ∀ fr s H, Sto fr r m s H → ∀ R : It → Hp → Prop,
  (∀ J fr' ds m' H', P ds m' → (∀ a o, fr a = some o → fr' a = some o) → Sto fr' r m' s H' → TupLe H H' → Yields wk J ds (fun _ => True) fr' H' → R J H') → wi s H R
theorem eix_rng {tr : TA} {P : List Dt → Mp → Prop} {R : List Dt → Mp → Prop} (h : EvAX tr r m P) (k : ∀ ds m', P ds m' → ∃ n : Nat, ds = [.int ((n : Nat) : Int)] ∧ n ≤ 100000 ∧ R ((List.range n).map fun n => .int ((n : Nat) : Int)) m') : EvIX false (iRng1 tr) r m R := fun fr s H S R2 q => h fr s H S _ fun vs ds m' H1 hp S1 t1 r1 => by
  obtain ⟨n, rfl, hn, hr⟩ := k ds m' hp
  cases r1 with
  | cons r1 r2 =>
    cases r2
    cases r1
    have e : ((List.range n).map fun n => Dt.int ((n : Nat) : Int)) = (List.range ((n : Nat) : Int).toNat).map fun k => Dt.int (0 + (k : Nat)) := by
      rw [Int.toNat_natCast]
      refine List.map_congr_left fun k _ => ?_
      rw [Int.zero_add]
    exact ⟨(n : Nat), rfl, by omega, by omega, q _ fr _ m' H1 hr (fun _ _ e => e) S1 t1 (by rw [e]; exact yields_rng)⟩
theorem s_forX {wk : Bool} {wi : TI} {g : TG} {tb : TS} {P : List Dt → Mp → Prop} (hi : EvIX wk wi r m P) (k : ∀ ds m0, P ds m0 → ∃ W : Nat → Ro → Mp → Prop, W 0 r m0 ∧
    (∀ i d r' m', ds[i]? = some d → W i r' m' → ∃ js r2, Ga wk g js d r' r2 ∧ St tb (fun r3 => Wk (W (i + 1) r3)) rt r2 m') ∧ ∀ r' m', W ds.length r' m' → nx r' m') : St (tFor wi g tb) nx rt r m := by
  intro fr s H D S k1 k2
  refine hi fr s H S _ fun J fr' ds m0 H1 hp lf S1 t1 Y => ?_
  obtain ⟨W, h0, hs, hd⟩ := k ds m0 hp
  refine ⟨fun i n s' H' => n = ds.length - i ∧ i ≤ ds.length ∧ ∃ r' m', W i r' m' ∧ Sto fr' r' m' s' H' ∧ TupLe H1 H', ⟨ds.length, by simp, Nat.zero_le _, r, m0, h0, S1, TupLe.refl _⟩, ?_⟩
  rintro i n s' H' ⟨rfl, hle, r', m', hw, S', t'⟩
  by_cases hlt : i < ds.length
  · refine .inr ⟨Y.go i m' r' s' H' hlt S' trivial t', fun s2 H2 => ∃ r2 m2, W (i + 1) r2 m2 ∧ Sto fr' r2 m2 s2 H2 ∧ TupLe H1 H2, fun s2 H2 ⟨r2, m2, w2, S2, t2⟩ => ⟨ds.length - (i + 1), by omega, rfl, hlt, r2, m2, w2, S2, t2⟩, fun x H2 y => ?_⟩
    obtain ⟨d, hd2, S2, t2, rk⟩ := Y.yld i m' r' s' H' x H2 hlt S' trivial t' y
    obtain ⟨js, r2, hg, hst⟩ := hs i d r' m' hd2 hw
    refine hg fr' m' s' H2 x S2 rk _ fun s3 S3 _ => ?_
    refine hst fr' s3 H2 _ S3 (fun r4 m4 s4 H4 w4 S4 t4 => let ⟨m5, l5, w5⟩ := w4; ⟨r4, m5, w5, S4.less l5, (t'.trans t2).trans t4⟩) fun d4 m4 v4 H4 hr S4 t4 r4 => ?_
    exact k2 d4 m4 v4 H4 hr (S4.lessF lf) (((t1.trans t').trans t2).trans t4) r4
  · have e : i = ds.length := by omega
    subst e
    exact .inl ⟨Y.stop m' r' s' H' S' trivial t', k1 r' m' s' H' (hd r' m' hw) (S'.lessF lf) (t1.trans t')⟩
/-- a, b = [], [] -/
theorem q_par00 {i j : Nat} (k : ∀ a b, m a = none → m b = none → a ≠ b → St u nx rt ((r.set i (some (.ref a))).set j (some (.ref b))) (mu (mu m a (.lst [])) b (.lst []))) : St (tSeq (tPar i j (tCons (tLst tNil) (tCons (tLst tNil) tNil))) u) nx rt r m := by
  refine q_seq (s_parX (P := fun ds m2 => ∃ a b, m a = none ∧ m b = none ∧ a ≠ b ∧ ds = [.ref a, .ref b] ∧ m2 = mu (mu m a (.lst [])) b (.lst [])) (eax_cons (P := fun d m1 => ∃ a, m a = none ∧ d = .ref a ∧ m1 = mu m a (.lst [])) (ex_en (en_lst ea_nil) fun a na => ⟨a, na, rfl, rfl⟩) ?_) ?_)
  · rintro d m1 ⟨a, na, rfl, rfl⟩
    refine eax_cons (P := fun d m2 => ∃ b, mu m a (.lst []) b = none ∧ d = .ref b ∧ m2 = mu (mu m a (.lst [])) b (.lst [])) (ex_en (en_lst ea_nil) fun b nb => ⟨b, nb, rfl, rfl⟩) ?_
    rintro d m2 ⟨b, nb, rfl, rfl⟩
    have ne : a ≠ b := fun e => by rw [← e, mu_same] at nb; cases nb
    exact eax_nil ⟨a, b, na, by rw [mu_ne (Ne.symm ne)] at nb; exact nb, ne, rfl, rfl⟩
  · rintro ds m2 ⟨a, b, na, nb, ne, rfl, rfl⟩
    exact ⟨_, _, rfl, k a b na nb ne⟩
/-- .. where a name is a cell -/
theorem q_tup00 {i j : Nat} (k : ∀ a b, m a = none → m b = none → a ≠ b → St u nx rt ((r.set i (some (.ref a))).set j (some (.ref b))) (mu (mu m a (.lst [])) b (.lst []))) : St (tSeq (tAsg (tTupF (tCons (tLst tNil) (tCons (tLst tNil) tNil))) (gTup K 2 (gCons (gName i) (gCons (gName j) gNil)))) u) nx rt r m := by
  refine q_seq (s_asgGX (P := fun d m2 => ∃ a b, m a = none ∧ m b = none ∧ a ≠ b ∧ d = .tup [.ref a, .ref b] ∧ m2 = mu (mu m a (.lst [])) b (.lst [])) (ex_tup (eax_cons (P := fun d m1 => ∃ a, m a = none ∧ d = .ref a ∧ m1 = mu m a (.lst [])) (ex_en (en_lst ea_nil) fun a na => ⟨a, na, rfl, rfl⟩) ?_)) ?_)
  · rintro d m1 ⟨a, na, rfl, rfl⟩
    refine eax_cons (P := fun d m2 => ∃ b, mu m a (.lst []) b = none ∧ d = .ref b ∧ m2 = mu (mu m a (.lst [])) b (.lst [])) (ex_en (en_lst ea_nil) fun b nb => ⟨b, nb, rfl, rfl⟩) ?_
    rintro d m2 ⟨b, nb, rfl, rfl⟩
    have ne : a ≠ b := fun e => by rw [← e, mu_same] at nb; cases nb
    exact eax_nil ⟨by simp, a, b, na, by rw [mu_ne (Ne.symm ne)] at nb; exact nb, ne, rfl, rfl⟩
  · rintro d m2 ⟨a, b, na, nb, ne, rfl, rfl⟩
    exact ⟨_, _, ga_tup rfl (gas_cons ga_name (gas_cons ga_name gas_nil)), k a b na nb ne⟩
/-- xs[i], xs[j] = e -/
theorem s_set2 {to1 ti1 to2 ti2 : TE} {a : Addr} {ds : List Dt} {j k : Nat} (h : Ev te r m (.tup [x, y])) (ho1 : Ev to1 r m (.ref a)) (hi1 : Ev ti1 r m (.int ((j : Nat) : Int))) (hm : m a = some (.lst ds)) (hj : j < ds.length)
    (ho2 : Ev to2 r (mu m a (.lst (ds.set j x))) (.ref a)) (hi2 : Ev ti2 r (mu m a (.lst (ds.set j x))) (.int ((k : Nat) : Int))) (hk : k < ds.length) (kk : nx r (mu m a (.lst ((ds.set j x).set k y)))) :
    St (tAsg te (gTup K 2 (gCons (gSub to1 ti1 rSetL) (gCons (gSub to2 ti2 rSetL) gNil)))) nx rt r m := fun fr s H D S k1 k2 =>
  h fr s H S _ fun v H1 S1 t1 r1 => by
    obtain ⟨p, o, xs, rfl, g1, g2, g3⟩ := tup_of r1
    cases g3 with
    | cons x1 g3 =>
      cases g3 with
      | cons x2 g3 =>
        cases g3
        refine ⟨p, _, rfl, sqt_of g1, rfl, _, _, rfl, ?_⟩
        refine ho1 fr s H1 S1 _ fun w H2 S2 t2 r2 => hi1 fr s H2 S2 _ fun u H3 S3 t3 r3 => ?_
        cases r2; cases r3
        obtain ⟨ys, q1, q3⟩ := S3.mst.mem a _ hm
        obtain ⟨S4, t4⟩ := mut_lst S3 hm q1 (q3.set ((x1.go t2).go t3) j)
        refine ⟨a, ys, _, j, rfl, rfl, q1, ixN_nt (by rw [q3.length]; exact hj), _, _, rfl, ?_⟩
        refine ho2 fr s _ S4 _ fun w H5 S5 t5 r5 => hi2 fr s H5 S5 _ fun u H6 S6 t6 r6 => ?_
        cases r5; cases r6
        obtain ⟨zs, q4, q5⟩ := S6.mst.mem a _ mu_same
        obtain ⟨S7, t7⟩ := mut_lst S6 mu_same q4 (q5.set (((((x2.go t2).go t3).go t4).go t5).go t6) k)
        rw [mu_mu] at S7
        exact ⟨a, zs, _, k, rfl, rfl, q4, ixN_nt (by rw [q5.length, List.length_set]; exact hk), rfl, k1 r _ s _ kk S7 ((((((t1.trans t2).trans t3).trans t4).trans t5).trans t6).trans t7)⟩
end
end TB
set_option Elab.async false
set_option linter.all false
set_option autoImplicit false
set_option maxRecDepth 100000
set_option maxHeartbeats 4000000
/-! The small defs. -/
namespace TB
open PySem PySem.Spec PyProof.Rows L2 RT
local macro_rules | `(tactic| walk_at "ev1") => `(tactic| first
  | ((with_reducible apply ev_var); rfl)
  | with_reducible exact ev_ci
  | with_reducible exact ev_cs
  | with_reducible exact ev_cb
  | with_reducible exact ev_cn
  | with_reducible apply ev_op
  | with_reducible apply ev_tup
  | with_reducible apply ev_isN
  | with_reducible apply ev_notN
  | with_reducible apply ev_notV
  | with_reducible exact op_I0i
  | with_reducible exact op_I0b
  | with_reducible exact op_eqS
  | with_reducible exact op_eqI
  | with_reducible exact op_neS
  | with_reducible exact op_neI
  | with_reducible exact op_isB
  | with_reducible exact op_inTS
  | with_reducible exact op_niTS
  | with_reducible exact op_inTI
  | with_reducible exact op_niTI
  | with_reducible apply op_ixT
  | with_reducible apply op_catT
  | with_reducible exact ea_nil
  | ((with_reducible show List.length _ ≤ 100000); first | decide | (simp <;> omega))
  | with_reducible apply ea_cons
  | with_reducible apply et_test
  | with_reducible apply et_B
  | with_reducible exact et_yes
  | with_reducible apply et_not
  | with_reducible exact ca_lenT
  | with_reducible exact ca_max
  | with_reducible exact ca_min
  | with_reducible exact eo_none
  | with_reducible apply eo_some
  | with_reducible apply ev_slT)
local macro_rules | `(tactic| walk_at "ev") => `(tactic| repeat' walk_at "ev1")
local macro_rules | `(tactic| walk_at "ev2") => `(tactic| repeat' first
  | walk_at "ev1"
  | (with_reducible apply op_mulN <;> omega)
  | (with_reducible apply op_divN <;> omega)
  | with_reducible apply ev_cbA
  | with_reducible apply ev_chain
  | with_reducible apply ev_if
  | with_reducible apply et_and
  | with_reducible apply et_or
  | with_reducible apply ev_andV
  | with_reducible apply ev_orV)

section
variable {P : Program} {w : World} {K : PySem.W.Frag} {mg : Str → Option Value} {base : Heap}
abbrev encM (s r : Nat) : Dt := .tup [.int (s : Nat), .int (r : Nat)]
abbrev encT (ws : List Str) : Dt := .tup (ws.map .str)
abbrev encS (es : List (List Str)) : Dt := .tup (es.map encT)
abbrev encD (ss : List (List (List Str))) : Dt := .tup (ss.map encS)
abbrev encN (ns : List Nat) : Dt := .tup (ns.map fun n => .int (n : Nat))
def nRaces (s n : Nat) : Nat := (n + s - 1) / s
abbrev spRaces : Sp := spV (fun i : Nat × Nat × Nat => [encM i.1 i.2.1, .int (i.2.2 : Nat)]) (fun i => 0 < i.1 ∧ i.1 < 1000) fun i => .int (nRaces i.1 i.2.2 : Nat)
theorem fn_races_of (A : At K mg "races_of" s_races_of ["meeting", "n"]) (Z : Nm mg) : Fn P w K mg base 1 "races_of" spRaces :=
  fn_at A sc_races_of (fun _ => rfl) fun f cdv A outer s H E hr => ⟨_, (pss_cons (ps_asg (pv 0) (k_pgtup K rfl rfl (n := 2) (pgs_cons (pg_name (i := 2) sc_races_of.nd rfl (Or.inl rfl) (Or.inl rfl)) (pgs_cons (pg_name (i := 3) sc_races_of.nd rfl (Or.inl rfl) (Or.inl rfl)) pgs_nil))))
      (pss_one (ps_ret (pe_op op_fdiv (pe_op op_sub (pe_op op_add (pv 1) (pv 2)) pe_int) (pv 2))))), by
    rintro ⟨s, r, n⟩ m ⟨hs, hs2⟩
    dsimp only at hs hs2 ⊢
    refine q_asgG (by walk_at "ev") (ga_tup rfl (gas_cons ga_name (gas_cons ga_name gas_nil))) ?_
    have e : ((n : Nat) : Int) + (s : Nat) - 1 = ((n + s - 1 : Nat) : Int) := by omega
    refine s_ret (ev_op (Ev.is (by walk_at "ev") (congrArg Dt.int e)) (by walk_at "ev") (op_divN hs (by omega))) (fin0 rfl)⟩
abbrev spSpan : Sp := spV (fun i : Nat × Nat × Nat × Nat => [encM i.1 i.2.1, .int (i.2.2.1 : Nat), .int (i.2.2.2 : Nat)]) (fun i => i.1 < 1000 ∧ 0 < i.2.2.1 ∧ i.2.2.2 < 1000) fun i => encN [i.2.2.2 * i.1, min (i.2.2.2 * i.1 + i.1) (i.2.2.1 - 1)]
theorem fn_span (A : At K mg "span" s_span ["meeting", "n", "k"]) (Z : Nm mg) : Fn P w K mg base 1 "span" spSpan :=
  fn_at A sc_span (fun _ => rfl) fun f cdv A outer s H E hr => ⟨_, (pss_cons (ps_asg (pv 0) (k_pgtup K rfl rfl (n := 2) (pgs_cons (pg_name (i := 3) sc_span.nd rfl (Or.inl rfl) (Or.inl rfl)) (pgs_cons (pg_name (i := 4) sc_span.nd rfl (Or.inl rfl) (Or.inl rfl)) pgs_nil))))
      (pss_one (ps_ret (pe_tupF (pa_cons (pe_op op_mulW (pv 2) (pv 3)) (pa_cons (pe_callB (cr_min2 rfl) (by rfl) Z.m_min b_min (pa_cons (pe_op op_add (pe_op op_mulW (pv 2) (pv 3)) (pv 3)) (pa_cons (pe_op op_sub (pv 1) pe_int) pa_nil))) pa_nil)))))), by
    rintro ⟨s, r, n, k⟩ m ⟨hs, hn, hk⟩
    dsimp only at hs hn hk ⊢
    refine q_asgG (by walk_at "ev") (ga_tup rfl (gas_cons ga_name (gas_cons ga_name gas_nil))) ?_
    refine s_ret (by walk_at "ev2") (fin0 ?_)
    have e : min (((k * s : Nat) : Int) + (s : Nat)) (((n : Nat) : Int) - 1) = ((min (k * s + s) (n - 1) : Nat) : Int) := by omega
    rw [e]
    rfl⟩
/-- row with the boats at i and j exchanged -/
def exch {α : Type} [Inhabited α] (row : List α) (i j : Nat) : List α := (row.set i (row.getD j default)).set j (row.getD i default)
abbrev spExch : Sp := spV (fun i : List Str × Nat × Nat => [encT i.1, .int (i.2.1 : Nat), .int (i.2.2 : Nat)]) (fun i => i.2.1 < i.1.length ∧ i.2.2 < i.1.length) fun i => encT (exch i.1 i.2.1 i.2.2)
theorem fn_exchanged (A : At K mg "exchanged" s_exchanged ["row", "one", "other"]) (Z : Nm mg) : Fn P w K mg base 1 "exchanged" spExch :=
  fn_at A sc_exchanged (fun _ => rfl) fun f cdv A outer s H E hr => ⟨_, (pss_cons (ps_set (i := 3) sc_exchanged.nd rfl (Or.inl rfl) (pe_callTy (k_list K rfl) (by rfl) Z.m_list b_list (pa_cons (pv 0) pa_nil)))
      (pss_cons (ps_asg (pe_ix (k_ix_tup K rfl) (pv 0) (pv 2) (fun _ _ => rfl)) (pg_sub (pv 3) (pv 1) set_list))
      (pss_cons (ps_asg (pe_ix (k_ix_tup K rfl) (pv 0) (pv 1) (fun _ _ => rfl)) (pg_sub (pv 3) (pv 2) set_list))
      (pss_one (ps_ret (pe_callTy (k_tupF K rfl) (by rfl) Z.m_tuple b_tuple (pa_cons (pv 3) pa_nil))))))), by
    rintro ⟨row, i, j⟩ m ⟨hi, hj⟩
    dsimp only at hi hj ⊢
    have gi : row[i]? = some (row.getD i default) := by simp [hi]
    have gj : row[j]? = some (row.getD j default) := by simp [hj]
    refine q_asgN (en_cbA (by walk_at "ev") ca_listT) fun a na => ?_
    refine q_seq (s_setL (ev_op (by walk_at "ev") (by walk_at "ev") (op_ixTn rfl gj)) (by walk_at "ev") (by walk_at "ev") mu_same (by simpa using hi) ?_)
    refine q_seq (s_setL (ev_op (by walk_at "ev") (by walk_at "ev") (op_ixTn rfl gi)) (by walk_at "ev") (by walk_at "ev") mu_same (by simpa using hj) ?_)
    rw [mu_mu, mu_mu]
    refine s_ret (ev_cbA (by walk_at "ev") (ca_tupL mu_same)) (fin (MLe.new na) ?_)
    simp only [encT, exch, List.map_set]⟩
/-! ### names -/
/-- a to z alone -/
def lets (x : Str) : Prop := ∀ c ∈ x.cps.toList, 97 ≤ c ∧ c ≤ 122
def goodName (x : Str) : Prop := 1 ≤ x.length ∧ x.length ≤ 8 ∧ lets x
theorem az_has : ∀ d, d < 26 → azS.cps.contains (97 + d) = true := by decide +kernel
theorem tw_all {α : Type} {p : α → Bool} : ∀ {l : List α}, (∀ c ∈ l, p c = true) → l.takeWhile p = l
  | [], _ => rfl
  | c :: l, h => by rw [List.takeWhile_cons, if_pos (h c List.mem_cons_self), tw_all fun d hd => h d (List.mem_cons_of_mem _ hd)]
theorem strip_lets {x : Str} (h : lets x) : Txt.stripChars x azS = "" := by
  have hw : x.cps.toList.takeWhile azS.cps.contains = x.cps.toList := tw_all fun c hc => by
    obtain ⟨h1, h2⟩ := h c hc
    have := az_has (c - 97) (by omega)
    have e : 97 + (c - 97) = c := by omega
    rw [e] at this
    exact this
  show Txt.stripBy azS.cps.contains true true x = ""
  rw [stripBy_eq]
  have hl : stripLo azS.cps.contains true x = x.cps.size := by
    show (x.cps.toList.takeWhile azS.cps.contains).length = _
    rw [hw]
    simp
  rw [hl]
  show (⟨x.cps.extract x.cps.size _⟩ : Str) = ""
  rw [Array.extract_eq_empty_of_le (by omega)]
  rfl
theorem lets_ok {x : Str} (h : lets x) : PyData.strOk x = true := by
  show x.cps.all (· < 0x110000) = true
  rw [← Array.all_toList]
  exact List.all_eq_true.mpr fun c hc => decide_eq_true (by have := (h c hc).2; omega)
abbrev spIsBoat : Sp := spV (fun x : Str => [.str x]) goodName fun _ => .bl true
theorem fn_is_boat (A : At K mg "is_boat" s_is_boat ["thing"]) (Z : Nm mg) : Fn P w K mg base 1 "is_boat" spIsBoat :=
  fn_at A sc_is_boat (fun _ => rfl) fun f cdv A outer s H E hr => ⟨_, (pss_one (ps_ret (pe_and (pe_callB (k_isi K rfl) (by rfl) Z.m_isinstance b_isinstance (pa_cons (pv 0) (pa_cons (pe_ty (by rfl) Z.m_str b_str) pa_nil))) (pe_and (pe_chain op_le op_le pe_int (pe_callB cr_lenS (by rfl) Z.m_len b_len (pa_cons (pv 0) pa_nil)) (pe_gcst (by rfl) Z.gMS)) (pe_one (pe_cmpR op_eq (pe_bm PySem.F.plainAttrs_str PySem.F.slot_str_strip PySem.F.type_str_strip mt_strip' (pv 0) (pa_cons (pe_gcst (by rfl) Z.gBS) pa_nil)) pe_str (nomark _))))))), by
    rintro x m ⟨h1, h2, h3⟩
    have hz : x.length ≤ sizeLine := sz_of (by omega)
    refine s_ret (ev_andV (ev_isi (x := .str x) (T := "str") (b := true) (by walk_at "ev") rfl (show kitB "str" "str" = some true by decide +kernel)) fun _ => ev_andV (ev_chain (by walk_at "ev") (ev_cbA (by walk_at "ev") (ca_lenS hz)) op_I0b (fun _ => by walk_at "ev") fun _ => op_I0b) fun _ => ev_op (ev_strip (by walk_at "ev") (by walk_at "ev") hz) (by walk_at "ev") op_eqS) (fin0 ?_)
    have e1 : decide ((1 : Int) ≤ ((x.length : Nat) : Int)) = true := decide_eq_true (by omega)
    have e2 : decide (((x.length : Nat) : Int) ≤ 8) = true := decide_eq_true (by omega)
    rw [e1, e2, strip_lets h3]
    rfl⟩
/-! ### events -/
def between (start : List Str) (x y : Str) : List Str := (start.drop (min (start.idxOf x) (start.idxOf y) + 1)).take (max (start.idxOf x) (start.idxOf y) - (min (start.idxOf x) (start.idxOf y) + 1))
abbrev spBetween : Sp := spV (fun i : List Str × Str × Str × Str => [encT i.1, encT [i.2.1, i.2.2.1, i.2.2.2]]) (fun i => i.2.2.1 ∈ i.1 ∧ i.2.2.2 ∈ i.1) fun i => encT (between i.1 i.2.2.1 i.2.2.2)
theorem fn_boats_between (A : At K mg "boats_between" s_boats_between ["start", "event"]) (Z : Nm mg) : Fn P w K mg base 1 "boats_between" spBetween :=
  fn_at A sc_boats_between (fun _ => rfl) fun f cdv A outer s H E hr => ⟨_, (pss_cons (ps_par (i := 2) (j := 3) rfl sc_boats_between.nd rfl rfl (by decide) rfl rfl (pa_cons (pe_tm PySem.F.slot_tuple_index PySem.F.type_tuple_index (k_tidx K rfl) (pv 0) (pa_cons (pe_ix (k_ix_tup K rfl) (pv 1) pe_int (fun _ _ => rfl)) pa_nil)) (pa_cons (pe_tm PySem.F.slot_tuple_index PySem.F.type_tuple_index (k_tidx K rfl) (pv 0) (pa_cons (pe_ix (k_ix_tup K rfl) (pv 1) pe_int (fun _ _ => rfl)) pa_nil)) pa_nil)) (by rfl))
      (pss_one (ps_ret (pe_slice (k_sl_tupF K rfl) (pv 0) (po_some (pe_op op_add (pe_callB (cr_min2 rfl) (by rfl) Z.m_min b_min (pa_cons (pv 2) (pa_cons (pv 3) pa_nil))) pe_int)) (po_some (pe_callB (cr_max2 rfl) (by rfl) Z.m_max b_max (pa_cons (pv 2) (pa_cons (pv 3) pa_nil)))))))), by
    rintro ⟨start, t, x, y⟩ m ⟨hx, hy⟩
    dsimp only at hx hy ⊢
    refine q_par (ea_cons (ev_idx (by walk_at "ev") (ev_op (by walk_at "ev") (by walk_at "ev") (op_ixTk (xs := [t, x, y]) 1 rfl)) hx) (ea_cons (ev_idx (by walk_at "ev") (ev_op (by walk_at "ev") (by walk_at "ev") (op_ixTk (xs := [t, x, y]) 2 rfl)) hy) ea_nil)) ?_
    refine s_ret (by walk_at "ev2") (fin0 ?_)
    rw [cut_map, cut_ab (a := min (start.idxOf x) (start.idxOf y) + 1) (b := max (start.idxOf x) (start.idxOf y)) (by omega) (by omega)]
    rfl⟩
abbrev spAhead : Sp := spV (fun i : List Str × Str × Str × Str => [encT i.1, encT [i.2.1, i.2.2.1, i.2.2.2]]) (fun i => i.2.2.1 ∈ i.1 ∧ i.2.2.2 ∈ i.1) fun i => .bl (decide (i.1.idxOf i.2.2.2 < i.1.idxOf i.2.2.1))
theorem fn_goes_ahead (A : At K mg "goes_ahead" s_goes_ahead ["start", "event"]) (Z : Nm mg) : Fn P w K mg base 1 "goes_ahead" spAhead :=
  fn_at A sc_goes_ahead (fun _ => rfl) fun f cdv A outer s H E hr => ⟨_, (pss_one (ps_ret (pe_cmpR op_lt (pe_tm PySem.F.slot_tuple_index PySem.F.type_tuple_index (k_tidx K rfl) (pv 0) (pa_cons (pe_ix (k_ix_tup K rfl) (pv 1) pe_int (fun _ _ => rfl)) pa_nil)) (pe_tm PySem.F.slot_tuple_index PySem.F.type_tuple_index (k_tidx K rfl) (pv 0) (pa_cons (pe_ix (k_ix_tup K rfl) (pv 1) pe_int (fun _ _ => rfl)) pa_nil)) (nomark _)))), by
    rintro ⟨start, t, x, y⟩ m ⟨hx, hy⟩
    dsimp only at hx hy ⊢
    refine s_ret (ev_op (ev_idx (by walk_at "ev") (ev_op (by walk_at "ev") (by walk_at "ev") (op_ixTk (xs := [t, x, y]) 2 rfl)) hy) (ev_idx (by walk_at "ev") (ev_op (by walk_at "ev") (by walk_at "ev") (op_ixTk (xs := [t, x, y]) 1 rfl)) hx) op_I0b) (fin0 ?_)
    simp only [Int.ofNat_lt]⟩
abbrev spTouches : Sp := spN (fun es : List (List Str) => [encS es]) (fun es _ => es.length ≤ 1000 ∧ ∀ e ∈ es, e ≠ []) fun es => .lst ((es.filter fun e => decide (e.getD 0 default = ("touch" : Str))).map encT)
theorem fn_touches_in (A : At K mg "touches_in" s_touches_in ["sheet"]) (Z : Nm mg) : Fn P w K mg base 1 "touches_in" spTouches :=
  fn_at A sc_touches_in (fun _ => rfl) fun f cdv A outer s H E hr => ⟨_, (pss_one (ps_ret (pe_lc (own := [("event", 1)]) rfl sc_touches_in.nd (pi_tup (pv 0)) (blkOk_by (own := [("event", 1)]) (N := N_touches_in) (sc := defScope s_touches_in) (by decide +kernel)) (fun _ _ _ _ _ => (pg_name (i := 1) sc_touches_in.nd rfl (Or.inl rfl) (Or.inr rfl))) (fun _ _ _ _ _ => (pts_one (pt_cmpR op_eq (pe_ix (k_ix_tup K rfl) (pv 1) pe_int (fun _ _ => rfl)) pe_str (nomark _)))) (fun _ _ _ _ _ => (pv 1))))), by
    rintro es m ⟨hl, he⟩
    refine s_retN (en_lc (ei_tup (by walk_at "ev")) (fun _ _ => trivial) (fun e => decide (e.getD 0 default = ("touch" : Str))) encT (fun e hm => ⟨_, _, by decide, ga_name, et_test (ev_op (ev_op (by walk_at "ev") (by walk_at "ev") (op_ixTk 0 ?_)) (by walk_at "ev") op_eqS), fun _ => by walk_at "ev"⟩) (by omega)) fun a na => Wk.of ⟨a, na, rfl, rfl⟩
    have := he e hm
    cases e with
    | nil => exact absurd rfl this
    | cons => rfl⟩
abbrev spCrossed : Sp := spV (fun i : List Str × (Str × Str × Str) × (Str × Str × Str) => [encT i.1, encT [i.2.1.1, i.2.1.2.1, i.2.1.2.2], encT [i.2.2.1, i.2.2.2.1, i.2.2.2.2]]) (fun i => i.2.1.2.1 ∈ i.1 ∧ i.2.1.2.2 ∈ i.1)
  fun i => .bl (!decide (decide (i.2.2.2.1 ∈ between i.1 i.2.1.2.1 i.2.1.2.2) = decide (i.2.2.2.2 ∈ between i.1 i.2.1.2.1 i.2.1.2.2)))
theorem fn_is_crossed (A : At K mg "is_crossed" s_is_crossed ["start", "one", "other"]) (c_boats_between : Fn P w K mg base 1 "boats_between" spBetween) (Z : Nm mg) : Fn P w K mg base 2 "is_crossed" spCrossed :=
  fn_at A sc_is_crossed (fun _ => rfl) fun f cdv A outer s H E hr => ⟨_, (pss_cons (ps_set (i := 3) sc_is_crossed.nd rfl (Or.inl rfl) (pe_fn c_boats_between hr (by decide) (by rfl) (pa_cons (pv 0) (pa_cons (pv 1) pa_nil))))
      (pss_one (ps_ret (pe_cmpR op_ne (pe_cmpR (k_in_seq K rfl) (pe_ix (k_ix_tup K rfl) (pv 2) pe_int (fun _ _ => rfl)) (pv 3) (by with_unfolding_all rfl)) (pe_cmpR (k_in_seq K rfl) (pe_ix (k_ix_tup K rfl) (pv 2) pe_int (fun _ _ => rfl)) (pv 3) (by with_unfolding_all rfl)) (nomark _))))), by
    rintro ⟨start, ⟨t, x, y⟩, ⟨t', x', y'⟩⟩ m ⟨hx, hy⟩
    dsimp only at hx hy ⊢
    refine q_asg (ev_call (start, t, x, y) (by walk_at "ev") rfl ⟨hx, hy⟩) ?_
    refine s_ret (ev_op (ev_op (ev_op (by walk_at "ev") (by walk_at "ev") (op_ixTk (xs := [t', x', y']) 1 rfl)) (by walk_at "ev") op_inTS) (ev_op (ev_op (by walk_at "ev") (by walk_at "ev") (op_ixTk (xs := [t', x', y']) 2 rfl)) (by walk_at "ev") op_inTS) op_neB) (fin0 rfl)⟩
/-- a place's race -/
def cutR {α : Type} (s n k : Nat) (row : List α) : List α := (row.drop (k * s)).take (min (k * s + s) (n - 1) + 1 - k * s)
abbrev spStart : Sp := spV (fun i : Nat × Nat × List Str × Nat => [encM i.1 i.2.1, encT i.2.2.1, .int (i.2.2.2 : Nat)]) (fun i => i.1 < 1000 ∧ i.2.2.1 ≠ [] ∧ i.2.2.2 < 1000) fun i => encT (cutR i.1 i.2.2.1.length i.2.2.2 i.2.2.1)
theorem fn_start_on (A : At K mg "start_on" s_start_on ["meeting", "row", "k"]) (c_span : Fn P w K mg base 1 "span" spSpan) (Z : Nm mg) : Fn P w K mg base 2 "start_on" spStart :=
  fn_at A sc_start_on (fun _ => rfl) fun f cdv A outer s H E hr => ⟨_, (pss_cons (ps_asg (pe_fn c_span hr (by decide) (by rfl) (pa_cons (pv 0) (pa_cons (pe_callB (k_len K rfl) (by rfl) Z.m_len b_len (pa_cons (pv 1) pa_nil)) (pa_cons (pv 2) pa_nil)))) (k_pgtup K rfl rfl (n := 2) (pgs_cons (pg_name (i := 3) sc_start_on.nd rfl (Or.inl rfl) (Or.inl rfl)) (pgs_cons (pg_name (i := 4) sc_start_on.nd rfl (Or.inl rfl) (Or.inl rfl)) pgs_nil))))
      (pss_one (ps_ret (pe_slice (k_sl_tupF K rfl) (pv 1) (po_some (pv 3)) (po_some (pe_op op_add (pv 4) pe_int)))))), by
    rintro ⟨s, r, row, k⟩ m ⟨hs, hn, hk⟩
    dsimp only at hs hn hk ⊢
    refine q_asgG (ev_call (s, r, row.length, k) (by walk_at "ev2") (by simp) ⟨hs, List.length_pos_iff.mpr hn, hk⟩) (ga_tup rfl (gas_cons ga_name (gas_cons ga_name gas_nil))) ?_
    dsimp only
    refine s_ret (by walk_at "ev2") (fin0 ?_)
    rw [cut_map, cut_ab (a := k * s) (b := min (k * s + s) (row.length - 1) + 1) (by omega) (by omega)]
    rfl⟩
def layR {α : Type} (s n k : Nat) (row some : List α) : List α := row.take (k * s) ++ some ++ row.drop (min (k * s + s) (n - 1) + 1)
abbrev spLaid : Sp := spV (fun i : Nat × Nat × List Str × Nat × List Str => [encM i.1 i.2.1, encT i.2.2.1, .int (i.2.2.2.1 : Nat), encT i.2.2.2.2]) (fun i => i.1 < 1000 ∧ i.2.2.1 ≠ [] ∧ i.2.2.2.1 < 1000 ∧ i.2.2.1.length < 1000 ∧ i.2.2.2.2.length < 1000) fun i => encT (layR i.1 i.2.2.1.length i.2.2.2.1 i.2.2.1 i.2.2.2.2)
theorem fn_laid_on (A : At K mg "laid_on" s_laid_on ["meeting", "row", "k", "some"]) (c_span : Fn P w K mg base 1 "span" spSpan) (Z : Nm mg) : Fn P w K mg base 2 "laid_on" spLaid :=
  fn_at A sc_laid_on (fun _ => rfl) fun f cdv A outer s H E hr => ⟨_, (pss_cons (ps_asg (pe_fn c_span hr (by decide) (by rfl) (pa_cons (pv 0) (pa_cons (pe_callB (k_len K rfl) (by rfl) Z.m_len b_len (pa_cons (pv 1) pa_nil)) (pa_cons (pv 2) pa_nil)))) (k_pgtup K rfl rfl (n := 2) (pgs_cons (pg_name (i := 4) sc_laid_on.nd rfl (Or.inl rfl) (Or.inl rfl)) (pgs_cons (pg_name (i := 5) sc_laid_on.nd rfl (Or.inl rfl) (Or.inl rfl)) pgs_nil))))
      (pss_one (ps_ret (pe_op (k_catF K rfl) (pe_op (k_catF K rfl) (pe_slice (k_sl_tupF K rfl) (pv 1) po_none (po_some (pv 4))) (pv 3)) (pe_slice (k_sl_tupF K rfl) (pv 1) (po_some (pe_op op_add (pv 5) pe_int)) po_none))))), by
    rintro ⟨s, r, row, k, so⟩ m ⟨hs, hn, hk, hl, hl2⟩
    dsimp only at hs hn hk hl hl2 ⊢
    refine q_asgG (ev_call (s, r, row.length, k) (by walk_at "ev2") (by simp) ⟨hs, List.length_pos_iff.mpr hn, hk⟩) (ga_tup rfl (gas_cons ga_name (gas_cons ga_name gas_nil))) ?_
    dsimp only
    have c1 : cut (row.map Dt.str) none (some ((k * s : Nat) : Int)) = (row.take (k * s)).map Dt.str := by rw [cut_map, cut_b rfl]
    have c2 : cut (row.map Dt.str) (some (((min (k * s + s) (row.length - 1) : Nat) : Int) + 1)) none = (row.drop (min (k * s + s) (row.length - 1) + 1)).map Dt.str := by rw [cut_map, cut_a (a := min (k * s + s) (row.length - 1) + 1) (by omega)]
    refine s_ret (ev_op (ev_op (Ev.is (by walk_at "ev2") (congrArg Dt.tup c1)) (by walk_at "ev2") (op_catT (sz_of ?_))) (Ev.is (by walk_at "ev2") (congrArg Dt.tup c2)) (op_catT (sz_of ?_))) (fin0 ?_)
    · simp; omega
    · simp; omega
    · simp [encT, layR]⟩
def downR (s n : Nat) : List Nat := (List.range (nRaces s n)).reverse
abbrev spGoing : Sp := spN (fun i : Nat × Nat × List Str => [encM i.1 i.2.1, encT i.2.2]) (fun i _ => 0 < i.1 ∧ i.1 < 1000 ∧ i.2.2.length < 1000) fun i => .lst ((downR i.1 i.2.2.length).map fun k => .int (k : Nat))
end
end TB
set_option Elab.async false
set_option linter.all false
set_option autoImplicit false
set_option maxRecDepth 100000
set_option maxHeartbeats 4000000
/-! The defs that look at a sheet. -/
namespace TB
open PySem PySem.Spec PyProof.Rows L2 RT
local macro_rules | `(tactic| walk_at "ev1") => `(tactic| first
  | ((with_reducible apply ev_var); rfl)
  | with_reducible exact ev_ci
  | with_reducible exact ev_cs
  | with_reducible exact ev_cb
  | with_reducible exact ev_cn
  | with_reducible apply ev_op
  | with_reducible apply ev_tup
  | with_reducible apply ev_isN
  | with_reducible apply ev_notN
  | with_reducible apply ev_notV
  | with_reducible exact op_I0i
  | with_reducible exact op_I0b
  | with_reducible exact op_eqS
  | with_reducible exact op_eqI
  | with_reducible exact op_neS
  | with_reducible exact op_neI
  | with_reducible exact op_isB
  | with_reducible exact op_inTS
  | with_reducible exact op_niTS
  | with_reducible exact op_inTI
  | with_reducible exact op_niTI
  | with_reducible apply op_ixT
  | with_reducible apply op_catT
  | with_reducible exact ea_nil
  | ((with_reducible show List.length _ ≤ 100000); first | decide | (simp <;> omega))
  | with_reducible apply ea_cons
  | with_reducible apply et_test
  | with_reducible apply et_B
  | with_reducible exact et_yes
  | with_reducible apply et_not
  | with_reducible exact ca_lenT
  | with_reducible exact ca_max
  | with_reducible exact ca_min
  | with_reducible exact eo_none
  | with_reducible apply eo_some
  | with_reducible apply ev_slT)
local macro_rules | `(tactic| walk_at "ev") => `(tactic| repeat' walk_at "ev1")
local macro_rules | `(tactic| walk_at "ev2") => `(tactic| repeat' first
  | walk_at "ev1"
  | (with_reducible apply op_mulN <;> omega)
  | (with_reducible apply op_divN <;> omega)
  | with_reducible apply ev_cbA
  | with_reducible apply ev_chain
  | with_reducible apply ev_if
  | with_reducible apply et_and
  | with_reducible apply et_or
  | with_reducible apply ev_andV
  | with_reducible apply ev_orV)

section
variable {P : Program} {w : World} {K : PySem.W.Frag} {mg : Str → Option Value} {base : Heap}
theorem fn_races_going (A : At K mg "races_going" s_races_going ["meeting", "row"]) (c_races_of : Fn P w K mg base 1 "races_of" spRaces) (Z : Nm mg) : Fn P w K mg base 2 "races_going" spGoing :=
  fn_at A sc_races_going (fun _ => rfl) fun f cdv A outer s H E hr => ⟨_, (pss_one (ps_ret (pe_listDown rfl (by rfl) Z.m_list (by rfl) Z.m_range (pa_cons (pe_op op_sub (pe_fn c_races_of hr (by decide) (by rfl) (pa_cons (pv 0) (pa_cons (pe_callB (k_len K rfl) (by rfl) Z.m_len b_len (pa_cons (pv 1) pa_nil)) pa_nil))) pe_int) (pa_cons (pe_un un_neg pe_int) (pa_cons (pe_un un_neg pe_int) pa_nil)))))), by
    rintro ⟨s, r, row⟩ m ⟨h1, h2, h3⟩
    dsimp only at h1 h2 h3 ⊢
    have hn : nRaces s row.length ≤ 100000 := Nat.le_trans (Nat.div_le_self _ _) (by omega)
    exact s_retN (en_lstDown (n := nRaces s row.length) (ea_cons (ev_op (ev_call (s, r, row.length) (by walk_at "ev2") (by simp) ⟨h1, h2⟩) (by walk_at "ev") op_I0i) (ea_cons (ev_neg ev_ci) (ea_cons (ev_neg ev_ci) ea_nil))) rfl hn) fun a na => Wk.of ⟨a, na, rfl, rfl⟩⟩
/-! ### events -/
abbrev sDrop : Str := "drop"
abbrev sTouch : Str := "touch"
def goodEv (e : List Str) : Prop := (∃ x, e = [sDrop, x] ∧ goodName x) ∨ ∃ x y, e = [sTouch, x, y] ∧ goodName x ∧ goodName y ∧ x ≠ y
abbrev spIsEvent : Sp := spV (fun e : List Str => [encT e]) goodEv fun _ => .bl true
theorem fn_is_event (A : At K mg "is_event" s_is_event ["thing"]) (c_is_boat : Fn P w K mg base 1 "is_boat" spIsBoat) (Z : Nm mg) : Fn P w K mg base 2 "is_event" spIsEvent :=
  fn_at A sc_is_event (fun _ => rfl) fun f cdv A outer s H E hr => ⟨_, (pss_cons (ps_if (PW.pt (pw_or (pt_not (pt_val (pe_callB (k_isi K rfl) (by rfl) Z.m_isinstance b_isinstance (pa_cons (pv 0) (pa_cons (pe_ty (by rfl) Z.m_tuple b_tuple) pa_nil))))) (pw_or (pt_cmpR op_lt (pe_callB (k_len K rfl) (by rfl) Z.m_len b_len (pa_cons (pv 0) pa_nil)) pe_int (nomark _)) (pw_or1 (pt_not (pt_val (pe_callB (k_all K rfl rfl) (by rfl) Z.m_all b_all (pa_cons (pe_lc (own := [("boat", 1)]) rfl sc_is_event.nd (pi_tup (pe_slice (k_sl_tupF K rfl) (pv 0) (po_some pe_int) po_none)) (blkOk_by (own := [("boat", 1)]) (N := N_is_event) (sc := defScope s_is_event) (by decide +kernel)) (fun _ _ _ _ _ => (pg_name (i := 1) sc_is_event.nd rfl (Or.inl rfl) (Or.inr rfl))) (fun _ _ _ _ _ => pts_nil) (fun _ _ _ _ _ => (pe_fn c_is_boat hr (by decide) (by rfl) (pa_cons (pv 1) pa_nil)))) pa_nil)))))))) (pss_one (ps_ret pe_bl)) pss_nil)
      (pss_cons (ps_if (pt_cmpR op_eq (pe_callB (k_len K rfl) (by rfl) Z.m_len b_len (pa_cons (pv 0) pa_nil)) pe_int (nomark _)) (pss_one (ps_ret (pe_cmpR op_eq (pe_ix (k_ix_tup K rfl) (pv 0) pe_int (fun _ _ => rfl)) pe_str (nomark _)))) pss_nil)
      (pss_one (ps_ret (pe_and (pe_cmpR op_eq (pe_callB (k_len K rfl) (by rfl) Z.m_len b_len (pa_cons (pv 0) pa_nil)) pe_int (nomark _)) (pe_and (pe_cmpR op_eq (pe_ix (k_ix_tup K rfl) (pv 0) pe_int (fun _ _ => rfl)) pe_str (nomark _)) (pe_one (pe_cmpR op_ne (pe_ix (k_ix_tup K rfl) (pv 0) pe_int (fun _ _ => rfl)) (pe_ix (k_ix_tup K rfl) (pv 0) pe_int (fun _ _ => rfl)) (nomark _))))))))), by
    intro e m hg
    have gn : ∀ x ∈ e.drop 1, goodName x := fun x hx => by
      rcases hg with ⟨y, rfl, h⟩ | ⟨y, z, rfl, h1, h2, _⟩
      · have e : x = y := by simpa using hx
        rw [e]; exact h
      · have e : x = y ∨ x = z := by simpa using hx
        rcases e with rfl | rfl
        · exact h1
        · exact h2
    have l2 : 2 ≤ e.length ∧ e.length ≤ 3 := by
      rcases hg with ⟨y, rfl, h⟩ | ⟨y, z, rfl, h1, h2, _⟩ <;> simp
    refine q_when (EvT.is (b' := false) (et_or (et_not (et_B (ev_isT (by walk_at "ev")))) fun _ => et_or (et_test (ev_op (by walk_at "ev2") (by walk_at "ev") op_I0b)) fun _ => et_not (et_B (ev_allLc (ei_tup (ev_tail (by walk_at "ev"))) (fun _ _ => trivial) (fun _ => true) (fun _ => true)
      (fun x hx => ⟨_, _, by decide, ga_name, et_yes, fun _ => ev_call x (by walk_at "ev") rfl (gn x hx)⟩) (by simp; omega)))) ?_) (fun h => nomatch h) fun _ => ?_
    · rw [all_tt _ (fun _ _ => rfl)]
      simp
      omega
    rcases hg with ⟨y, rfl, h⟩ | ⟨y, z, rfl, h1, h2, h3⟩
    · refine q_when (EvT.is (b' := true) (et_test (ev_op (by walk_at "ev2") (by walk_at "ev") op_eqI)) rfl) (fun _ => ?_) fun h => nomatch h
      exact s_ret (ev_op (ev_op (by walk_at "ev") (by walk_at "ev") (op_ixTk (xs := [sDrop, y]) 0 rfl)) (by walk_at "ev") op_eqS) (fin0 (by simp))
    · refine q_when (EvT.is (b' := false) (et_test (ev_op (by walk_at "ev2") (by walk_at "ev") op_eqI)) rfl) (fun h => nomatch h) fun _ => ?_
      refine s_ret (ev_andV (ev_op (by walk_at "ev2") (by walk_at "ev") op_eqI) fun _ => ev_andV (ev_op (ev_op (by walk_at "ev") (by walk_at "ev") (op_ixTk (xs := [sTouch, y, z]) 0 rfl)) (by walk_at "ev") op_eqS) fun _ => ev_op (ev_op (by walk_at "ev") (by walk_at "ev") (op_ixTk (xs := [sTouch, y, z]) 1 rfl)) (ev_op (by walk_at "ev") (by walk_at "ev") (op_ixTk (xs := [sTouch, y, z]) 2 rfl)) op_neS) (fin0 ?_)
      simp [h3]⟩
def evLt (a b : List Str) : Bool := PySem.W.dataLt (py (encT a)) (py (encT b))
def goodSheet (es : List (List Str)) : Prop := (∀ e ∈ es, goodEv e) ∧ es.Pairwise (fun a b => evLt a b = true) ∧ es.length ≤ 1000
theorem py_encT (ws : List Str) : py (encT ws) = .tuple (ws.map .str) := by
  unfold encT
  rw [py, pys_map, List.map_map]
  congr 1
theorem pure_encT (ws : List Str) : TB.pure (encT ws) = true := by
  unfold encT
  rw [TB.pure, pures_all, List.all_map]
  exact List.all_eq_true.mpr fun x _ => by show TB.pure (.str x) = true; simp [TB.pure]
theorem alike_strs : ∀ xs ys : List Str, PySem.W.alikeAll (xs.map .str) (ys.map .str) = true
  | [], _ => by rw [List.map_nil, PySem.W.alikeAll]
  | _ :: _, [] => by rw [List.map_cons, List.map_nil, PySem.W.alikeAll]
  | x :: xs, y :: ys => by rw [List.map_cons, List.map_cons, PySem.W.alikeAll, alike_strs xs ys, PySem.W.alike]; rfl
theorem alike_encT (a b : List Str) : PySem.W.alike (py (encT a)) (py (encT b)) = true := by rw [py_encT, py_encT, PySem.W.alike]; exact alike_strs a b
theorem depth_strs : ∀ xs : List Str, PyData.depthAll (xs.map .str) = 0
  | [] => by rw [List.map_nil, PyData.depthAll]
  | x :: xs => by rw [List.map_cons, PyData.depthAll, depth_strs xs, PyData.depth]; rfl
theorem depth_encT (a : List Str) : (py (encT a)).depth = 1 := by rw [py_encT, PyData.depth, depth_strs]
abbrev spIsSheet : Sp := spV (fun e : List (List Str) => [encS e]) goodSheet fun _ => .bl true
theorem fn_is_sheet (A : At K mg "is_sheet" s_is_sheet ["thing"]) (c_is_event : Fn P w K mg base 2 "is_event" spIsEvent) (Z : Nm mg) : Fn P w K mg base 3 "is_sheet" spIsSheet :=
  fn_at A sc_is_sheet (fun _ => rfl) fun f cdv A outer s H E hr => ⟨_, by
    have hu64 := hu64_of hr
    exact (pss_cons (ps_if (PW.pt (pw_or (pt_not (pt_val (pe_callB (k_isi K rfl) (by rfl) Z.m_isinstance b_isinstance (pa_cons (pv 0) (pa_cons (pe_ty (by rfl) Z.m_tuple b_tuple) pa_nil))))) (pw_or1 (pt_not (pt_val (pe_callB (k_all K rfl rfl) (by rfl) Z.m_all b_all (pa_cons (pe_lc (own := [("event", 1)]) rfl sc_is_sheet.nd (pi_tup (pv 0)) (blkOk_by (own := [("event", 1)]) (N := N_is_sheet) (sc := defScope s_is_sheet) (by decide +kernel)) (fun _ _ _ _ _ => (pg_name (i := 1) sc_is_sheet.nd rfl (Or.inl rfl) (Or.inr rfl))) (fun _ _ _ _ _ => pts_nil) (fun _ _ _ _ _ => (pe_fn c_is_event hr (by decide) (by rfl) (pa_cons (pv 1) pa_nil)))) pa_nil))))))) (pss_one (ps_ret pe_bl)) pss_nil)
      (pss_one (ps_ret (pe_callB (k_all K rfl rfl) (by rfl) Z.m_all b_all (pa_cons (pe_lc (own := [("one", 2), ("other", 3)]) rfl sc_is_sheet.nd (pi_zipB false false (by rfl) Z.m_zip (pa_cons (pv 0) (pa_cons (pe_slice (k_sl_tupF K rfl) (pv 0) (po_some pe_int) po_none) pa_nil))) (blkOk_by (own := [("one", 2), ("other", 3)]) (N := N_is_sheet) (sc := defScope s_is_sheet) (by decide +kernel)) (fun _ _ _ _ _ => (k_pgtup K rfl rfl (n := 2) (pgs_cons (pg_name (i := 2) sc_is_sheet.nd rfl (Or.inl rfl) (Or.inr rfl)) (pgs_cons (pg_name (i := 3) sc_is_sheet.nd rfl (Or.inl rfl) (Or.inr rfl)) pgs_nil)))) (fun _ _ _ _ _ => pts_nil) (fun _ _ _ _ _ => (pe_cmpR (k_ltD K rfl hu64) (pv 2) (pv 3) (nomark _)))) pa_nil))))), by
    rintro es m ⟨h1, h2, h3⟩
    refine q_when (EvT.is (b' := false) (et_or (et_not (et_B (ev_isT (by walk_at "ev")))) fun _ => et_not (et_B (ev_allLc (ei_tup (by walk_at "ev")) (fun _ _ => trivial) (fun _ => true) (fun _ => true)
      (fun x hx => ⟨_, _, by decide, ga_name, et_yes, fun _ => ev_call x (by walk_at "ev") rfl (h1 x hx)⟩) (by omega)))) ?_) (fun h => nomatch h) fun _ => ?_
    · rw [all_tt _ (fun _ _ => rfl)]
      rfl
    refine s_ret (ev_allLc (ei_zipTT (xs := es) (ys := es.drop 1) (ea_cons (by walk_at "ev") (ea_cons (ev_tail (by walk_at "ev")) ea_nil))) (fun _ _ => trivial) (fun _ => true) (fun p => evLt p.1 p.2)
      (fun p hp => ⟨_, _, by decide, ga_tup rfl (gas_cons ga_name (gas_cons ga_name gas_nil)), et_yes, fun _ => ev_op (by walk_at "ev") (by walk_at "ev") (op_ltD' (pure_encT _) (pure_encT _) (alike_encT _ _) (by rw [py_encT]; exact fun h => nomatch h) (by rw [depth_encT, depth_encT]; decide))⟩) (by rw [List.length_zip]; omega)) (fin0 ?_)
    rw [filter_tt]
    congr 1
    refine List.all_eq_true.mpr fun p hp => ?_
    obtain ⟨i, hi, rfl⟩ := List.mem_iff_getElem.mp hp
    rw [List.length_zip, List.length_drop] at hi
    rw [List.getElem_zip, List.getElem_drop]
    exact List.pairwise_iff_getElem.mp h2 i (1 + i) (by omega) (by omega) (by omega)⟩
/-! ### a sound sheet -/
def names (es : List (List Str)) : List Str := es.flatMap (·.drop 1)
def touchesOf (es : List (List Str)) : List (List Str) := es.filter fun e => decide (e.getD 0 default = ("touch" : Str))
def isE (e : List Str) : Prop := (∃ x, e = [sDrop, x]) ∨ ∃ x y, e = [sTouch, x, y]
structure SoundS (start : List Str) (reach : Nat) (es : List (List Str)) : Prop where
  form : ∀ e ∈ es, isE e
  nd : (names es).Nodup
  inn : ∀ x ∈ names es, x ∈ start
  tch : ∀ x y, [sTouch, x, y] ∈ es → start.idxOf y < start.idxOf x ∧ (between start x y).length ≤ reach ∧ ∀ b ∈ between start x y, b ∈ names es
  crs : ∀ x y x' y', [sTouch, x, y] ∈ es → [sTouch, x', y'] ∈ es → (x' ∈ between start x y ↔ y' ∈ between start x y)
  len : es.length ≤ 1000
theorem touch_mem {es : List (List Str)} (hf : ∀ e ∈ es, isE e) {e : List Str} (h : e ∈ touchesOf es) : ∃ x y, e = [sTouch, x, y] ∧ [sTouch, x, y] ∈ es := by
  obtain ⟨h1, h2⟩ := List.mem_filter.mp h
  rcases hf e h1 with ⟨x, rfl⟩ | ⟨x, y, rfl⟩
  · exact absurd (of_decide_eq_true h2) (show ¬ (sDrop = sTouch) by decide +kernel)
  · exact ⟨x, y, rfl, h1⟩
theorem names_mem {es : List (List Str)} {e : List Str} {x : Str} (h : e ∈ es) (hx : x ∈ e.drop 1) : x ∈ names es := List.mem_flatMap.mpr ⟨e, h, hx⟩
theorem names_cut (i : Nat) (es : List (List Str)) : names es = names (es.take i) ++ names (es.drop i) := by
  unfold names
  rw [← List.flatMap_append, List.take_append_drop]
theorem ne_of_form {es : List (List Str)} (hf : ∀ e ∈ es, isE e) : ∀ e ∈ es, e ≠ [] := fun e he => by
  rcases hf e he with ⟨x, rfl⟩ | ⟨x, y, rfl⟩ <;> exact fun h => nomatch h
theorem exch_length {α : Type} [Inhabited α] (row : List α) (i j : Nat) : (exch row i j).length = row.length := by simp [exch]
def behindStep (start : List Str) (row : List Str) (e : List Str) : List Str := exch row (start.idxOf (e.getD 1 default)) (start.idxOf (e.getD 2 default))
def behindR (start : List Str) (es : List (List Str)) : List Str := (touchesOf es).foldl (behindStep start) start
theorem behind_length (start : List Str) (l : List (List Str)) (row : List Str) : (l.foldl (behindStep start) row).length = row.length := by
  induction l generalizing row with
  | nil => rfl
  | cons e l ih => rw [List.foldl_cons, ih, behindStep, exch_length]
abbrev spBehind : Sp := spV (fun i : List Str × List (List Str) => [encT i.1, encS i.2]) (fun i => (∀ e ∈ i.2, isE e) ∧ (∀ x ∈ names i.2, x ∈ i.1) ∧ i.2.length ≤ 1000) fun i => encT (behindR i.1 i.2)
theorem fn_row_behind (A : At K mg "row_behind" s_row_behind ["start", "sheet"]) (c_touches_in : Fn P w K mg base 1 "touches_in" spTouches) (c_exchanged : Fn P w K mg base 1 "exchanged" spExch) (Z : Nm mg) : Fn P w K mg base 2 "row_behind" spBehind :=
  fn_at A sc_row_behind (fun _ => rfl) fun f cdv A outer s H E hr => ⟨_, (pss_cons (ps_set (i := 2) sc_row_behind.nd rfl (Or.inl rfl) (pv 0))
      (pss_cons (ps_for PassesOwn.never rfl (pi_list (pe_fn c_touches_in hr (by decide) (by rfl) (pa_cons (pv 1) pa_nil))) (pg_name (i := 3) sc_row_behind.nd rfl (Or.inl rfl) (Or.inl rfl)) (pss_one (ps_set (i := 2) sc_row_behind.nd rfl (Or.inl rfl) (pe_fn c_exchanged hr (by decide) (by rfl) (pa_cons (pv 2) (pa_cons (pe_tm PySem.F.slot_tuple_index PySem.F.type_tuple_index (k_tidx K rfl) (pv 0) (pa_cons (pe_ix (k_ix_tup K rfl) (pv 3) pe_int (fun _ _ => rfl)) pa_nil)) (pa_cons (pe_tm PySem.F.slot_tuple_index PySem.F.type_tuple_index (k_tidx K rfl) (pv 0) (pa_cons (pe_ix (k_ix_tup K rfl) (pv 3) pe_int (fun _ _ => rfl)) pa_nil)) pa_nil)))))))
      (pss_one (ps_ret (pv 2))))), by
    rintro ⟨start, es⟩ m ⟨hf, hin, hl⟩
    dsimp only at hf hin hl ⊢
    refine q_asg (by walk_at "ev") ?_
    refine q_for (ei_listN (en_call es (by walk_at "ev") rfl ⟨hl, ne_of_form hf⟩)) (fun i r' m' => m' = m ∧ ∃ o, r' = [some (encT start), some (encS es), some (encT (((touchesOf es).take i).foldl (behindStep start) start)), o]) ⟨rfl, none, rfl⟩ (fun _ _ _ _ => trivial) ?_ ?_
    · rintro i d r' m' hd ⟨rfl, o, rfl⟩
      obtain ⟨e, he, rfl⟩ := getEnc hd
      obtain ⟨x, y, rfl, hm⟩ := touch_mem hf (memGet he)
      have hx : x ∈ start := hin x (names_mem hm (by simp))
      have hy : y ∈ start := hin y (names_mem hm (by simp))
      refine ⟨_, _, ga_name, ?_⟩
      refine s_asg (ev_call (((touchesOf es).take i).foldl (behindStep start) start, start.idxOf x, start.idxOf y) (ea_cons (by walk_at "ev") (ea_cons (ev_idx (by walk_at "ev") (ev_op (by walk_at "ev") (by walk_at "ev") (op_ixTk (xs := [sTouch, x, y]) 1 rfl)) hx) (ea_cons (ev_idx (by walk_at "ev") (ev_op (by walk_at "ev") (by walk_at "ev") (op_ixTk (xs := [sTouch, x, y]) 2 rfl)) hy) ea_nil))) rfl ⟨?_, ?_⟩) (Wk.of ⟨rfl, some (encT [sTouch, x, y]), ?_⟩)
      · dsimp only; rw [behind_length]; exact List.idxOf_lt_length_of_mem hx
      · dsimp only; rw [behind_length]; exact List.idxOf_lt_length_of_mem hy
      · have he' : (touchesOf es)[i]? = some [sTouch, x, y] := he
        rw [foldl_take he']
        rfl
    · rintro r' m' ⟨rfl, o, rfl⟩
      refine s_ret (by walk_at "ev") (fin0 ?_)
      rw [List.length_map, show (List.filter (fun e => decide (List.getD e 0 default = Str.ofString "touch")) es).length = (touchesOf es).length from rfl, List.take_length]
      rfl⟩
abbrev encMet (ns : List Str) : List (Key × Dt) := ns.map fun x => ((Sum.inr x : Key), Dt.bl true)
theorem met_in (ns : List Str) (x : Str) : (valD (encMet ns) (Sum.inr x)).isSome = decide (x ∈ ns) := by
  rw [valD_isSome, List.map_map]
  refine decide_eq_decide.mpr ⟨fun h => ?_, fun h => List.mem_map.mpr ⟨x, h, rfl⟩⟩
  obtain ⟨y, hy, e⟩ := List.mem_map.mp h
  have e2 : y = x := Sum.inr.inj e
  rw [← e2]; exact hy
theorem met_put {ns : List Str} {x : Str} (h : x ∉ ns) : putD (encMet ns) (Sum.inr x) (Dt.bl true) = encMet (ns ++ [x]) := by
  rw [putD_new]
  · simp [encMet]
  · rw [List.map_map]
    intro hm
    obtain ⟨y, hy, e⟩ := List.mem_map.mp hm
    have e2 : y = x := Sum.inr.inj e
    exact h (by rw [← e2]; exact hy)
theorem nodup_pre {α : Type} {a b : List α} {x : α} {c : List α} (h : (a ++ b).Nodup) {j : Nat} (hb : b[j]? = some x) : x ∉ a ++ b.take j := by
  have hs : b = b.take j ++ x :: b.drop (j + 1) := by
    have hl := (List.getElem?_eq_some_iff.mp hb).1
    have e : b[j] = x := by
      rw [List.getElem?_eq_getElem hl] at hb
      exact Option.some.inj hb
    rw [← e, ← List.drop_eq_getElem_cons hl, List.take_append_drop]
  rw [hs, ← List.append_assoc] at h
  intro hx
  exact (List.nodup_append.mp h).2.2 x hx x List.mem_cons_self rfl
abbrev spStrange : Sp := spV (fun i : List Str × List (List Str) => [encT i.1, encS i.2]) (fun i => (names i.2).Nodup ∧ (∀ x ∈ names i.2, x ∈ i.1) ∧ (∀ e ∈ i.2, isE e) ∧ (names i.2).length ≤ 1000) fun _ => .non
theorem fn_strange_or_twice (A : At K mg "strange_or_twice" s_strange_or_twice ["start", "sheet"]) (Z : Nm mg) : Fn P w K mg base 1 "strange_or_twice" spStrange :=
  fn_at A sc_strange_or_twice (fun _ => rfl) fun f cdv A outer s H E hr => ⟨_, by
    have hu := hu_of hr
    exact (pss_cons (ps_set (i := 2) sc_strange_or_twice.nd rfl (Or.inl rfl) pe_dnewK)
      (pss_cons (ps_for PassesOwn.never rfl (pi_tup (pv 1)) (pg_name (i := 3) sc_strange_or_twice.nd rfl (Or.inl rfl) (Or.inl rfl)) (pss_one (ps_for PassesOwn.never rfl (pi_tup (pe_slice (k_sl_tupF K rfl) (pv 3) (po_some pe_int) po_none)) (pg_name (i := 4) sc_strange_or_twice.nd rfl (Or.inl rfl) (Or.inl rfl)) (pss_cons (ps_if (pt_cmpR (k_notIn_seq K rfl) (pv 4) (pv 0) (by with_unfolding_all rfl)) (pss_one (ps_ret (pe_tupF (pa_cons pe_str (pa_cons (pv 4) pa_nil))))) pss_nil)
      (pss_cons (ps_if (pt_cmp (pc_din hu (pv 4) (pv 2))) (pss_one (ps_ret (pe_tupF (pa_cons pe_str (pa_cons (pv 4) pa_nil))))) pss_nil)
      (pss_one (ps_dput hu (pv 2) (pv 4) pe_bl rfl)))))))
      (pss_one (ps_ret pe_non)))), by
    rintro ⟨start, es⟩ m ⟨hnd, hin, hf, hl⟩
    dsimp only at hnd hin hf hl ⊢
    refine q_asgN en_dict0 fun a na => ?_
    refine q_for (ei_tup (by walk_at "ev")) (fun i r' m' => m' = mu m a (.dic (encMet (names (es.take i)))) ∧ ∃ o o', r' = [some (encT start), some (encS es), some (.ref a), o, o']) ⟨rfl, none, none, rfl⟩ (fun _ _ _ _ => trivial) ?_ ?_
    · rintro i d r' m' hd ⟨rfl, o, o', rfl⟩
      obtain ⟨e, he, rfl⟩ := getEnc hd
      have es1 : names (es.take (i + 1)) = names (es.take i) ++ e.drop 1 := by
        unfold names
        rw [List.take_add_one, he, List.flatMap_append]
        simp
      have hnd1 : (names (es.take i) ++ e.drop 1).Nodup := by
        rw [← es1]
        rw [names_cut (i + 1) es] at hnd
        exact (List.nodup_append.mp hnd).1
      have hlen1 : (names (es.take i) ++ e.drop 1).length ≤ 1000 := by
        rw [← es1]
        rw [names_cut (i + 1) es, List.length_append] at hl
        omega
      refine ⟨_, _, ga_name, ?_⟩
      refine s_for (ei_tup (ev_tail (xs := e) (by walk_at "ev"))) (fun j r' m' => m' = mu m a (.dic (encMet (names (es.take i) ++ (e.drop 1).take j))) ∧ ∃ o', r' = [some (encT start), some (encS es), some (.ref a), some (encT e), o']) ⟨by simp, o', rfl⟩ (fun _ _ _ _ => trivial) ?_ ?_
      · rintro j d r' m' hd ⟨rfl, o', rfl⟩
        obtain ⟨x, hx, rfl⟩ := getEnc hd
        have hxs : x ∈ start := hin x (names_mem (memGet he) (memGet hx))
        have hnx : x ∉ names (es.take i) ++ (e.drop 1).take j := nodup_pre (c := []) hnd1 hx
        refine ⟨_, _, ga_name, ?_⟩
        refine q_when (EvT.is (b' := false) (et_test (ev_op (by walk_at "ev") (by walk_at "ev") op_niTS)) (by simp [hxs])) (fun h => nomatch h) fun _ => ?_
        refine q_when (EvT.is (b' := false) (et_B (ev_din (k := Sum.inr x) (by walk_at "ev") (by walk_at "ev") mu_same)) (by rw [met_in]; simpa using hnx)) (fun h => nomatch h) fun _ => ?_
        refine s_dput (k := Sum.inr x) (by walk_at "ev") (by walk_at "ev") (by walk_at "ev") mu_same ?_ (Wk.of ⟨?_, some (.str x), rfl⟩)
        · have : (names (es.take i) ++ (e.drop 1).take j).length ≤ 1000 := by
            rw [List.length_append] at hlen1 ⊢
            have h2 : ((e.drop 1).take j).length ≤ (e.drop 1).length := by rw [List.length_take]; exact Nat.min_le_right _ _
            omega
          rw [List.length_map]; omega
        · rw [mu_mu, met_put hnx, List.append_assoc, List.take_add_one, hx]
          rfl
      · rintro r' m' ⟨rfl, o', rfl⟩
        refine Wk.of ⟨?_, some (encT e), o', rfl⟩
        rw [es1, List.length_map, List.take_length]
    · rintro r' m' ⟨rfl, o, o', rfl⟩
      exact s_ret (by walk_at "ev") (fin (MLe.new na) rfl)⟩
end
end TB
set_option Elab.async false
set_option linter.all false
set_option autoImplicit false
set_option maxRecDepth 100000
set_option maxHeartbeats 4000000
/-! fault_of, order_of. -/
namespace TB
open PySem PySem.Spec PyProof.Rows L2 RT
local macro_rules | `(tactic| walk_at "ev1") => `(tactic| first
  | ((with_reducible apply ev_var); rfl)
  | with_reducible exact ev_ci
  | with_reducible exact ev_cs
  | with_reducible exact ev_cb
  | with_reducible exact ev_cn
  | with_reducible apply ev_op
  | with_reducible apply ev_tup
  | with_reducible apply ev_isN
  | with_reducible apply ev_notN
  | with_reducible apply ev_notV
  | with_reducible exact op_I0i
  | with_reducible exact op_I0b
  | with_reducible exact op_eqS
  | with_reducible exact op_eqI
  | with_reducible exact op_neS
  | with_reducible exact op_neI
  | with_reducible exact op_isB
  | with_reducible exact op_inTS
  | with_reducible exact op_niTS
  | with_reducible exact op_inTI
  | with_reducible exact op_niTI
  | with_reducible apply op_ixT
  | with_reducible apply op_catT
  | with_reducible exact ea_nil
  | ((with_reducible show List.length _ ≤ 100000); first | decide | (simp <;> omega))
  | with_reducible apply ea_cons
  | with_reducible apply et_test
  | with_reducible apply et_B
  | with_reducible exact et_yes
  | with_reducible apply et_not
  | with_reducible exact ca_lenT
  | with_reducible exact ca_max
  | with_reducible exact ca_min
  | with_reducible exact eo_none
  | with_reducible apply eo_some
  | with_reducible apply ev_slT)
local macro_rules | `(tactic| walk_at "ev") => `(tactic| repeat' walk_at "ev1")
local macro_rules | `(tactic| walk_at "ev2") => `(tactic| repeat' first
  | walk_at "ev1"
  | (with_reducible apply op_mulN <;> omega)
  | (with_reducible apply op_divN <;> omega)
  | with_reducible apply ev_cbA
  | with_reducible apply ev_chain
  | with_reducible apply ev_if
  | with_reducible apply et_and
  | with_reducible apply et_or
  | with_reducible apply ev_andV
  | with_reducible apply ev_orV)

section
variable {P : Program} {w : World} {K : PySem.W.Frag} {mg : Str → Option Value} {base : Heap}
theorem names_any {es : List (List Str)} {b : Str} (h : b ∈ names es) : (es.any fun e => decide (b ∈ e.drop 1)) = true := by
  obtain ⟨e, he, hb⟩ := List.mem_flatMap.mp h
  exact List.any_eq_true.mpr ⟨e, he, decide_eq_true hb⟩
abbrev spTFault : Sp := spV (fun i : List Str × Nat × List (List Str) × Str × Str => [encT i.1, .int (i.2.1 : Nat), encS i.2.2.1, encT [sTouch, i.2.2.2.1, i.2.2.2.2]]) (fun i => i.2.2.2.1 ∈ i.1 ∧ i.2.2.2.2 ∈ i.1 ∧ i.1.idxOf i.2.2.2.2 < i.1.idxOf i.2.2.2.1 ∧ (between i.1 i.2.2.2.1 i.2.2.2.2).length ≤ i.2.1 ∧ (∀ b ∈ between i.1 i.2.2.2.1 i.2.2.2.2, b ∈ names i.2.2.1) ∧ i.2.2.1.length ≤ 1000) fun _ => .non
theorem fn_touch_fault (A : At K mg "touch_fault" s_touch_fault ["start", "reach", "sheet", "event"]) (c_goes_ahead : Fn P w K mg base 1 "goes_ahead" spAhead) (c_boats_between : Fn P w K mg base 1 "boats_between" spBetween) (Z : Nm mg) : Fn P w K mg base 2 "touch_fault" spTFault :=
  fn_at A sc_touch_fault (fun _ => rfl) fun f cdv A outer s H E hr => ⟨_, (pss_cons (ps_if (pt_not (pt_val (pe_fn c_goes_ahead hr (by decide) (by rfl) (pa_cons (pv 0) (pa_cons (pv 3) pa_nil))))) (pss_one (ps_ret (pe_tupF (pa_cons pe_str (pa_cons (pv 3) pa_nil))))) pss_nil)
      (pss_cons (ps_set (i := 4) sc_touch_fault.nd rfl (Or.inl rfl) (pe_fn c_boats_between hr (by decide) (by rfl) (pa_cons (pv 0) (pa_cons (pv 3) pa_nil))))
      (pss_cons (ps_if (pt_cmpR op_gt (pe_callB (k_len K rfl) (by rfl) Z.m_len b_len (pa_cons (pv 4) pa_nil)) (pv 1) (nomark _)) (pss_one (ps_ret (pe_tupF (pa_cons pe_str (pa_cons (pv 3) pa_nil))))) pss_nil)
      (pss_cons (ps_for PassesOwn.never rfl (pi_tup (pv 4)) (pg_name (i := 5) sc_touch_fault.nd rfl (Or.inr rfl) (Or.inl rfl)) (pss_one (ps_if (pt_not (pt_val (pe_callB (k_any K rfl rfl) (by rfl) Z.m_any b_any (pa_cons (pe_lc (own := [("other", 6)]) rfl sc_touch_fault.nd (pi_tup (pv 2)) (blkOk_by (own := [("other", 6)]) (N := N_touch_fault) (sc := defScope s_touch_fault) (by decide +kernel)) (fun _ _ _ _ _ => (pg_name (i := 6) sc_touch_fault.nd rfl (Or.inl rfl) (Or.inr rfl))) (fun _ _ _ _ _ => pts_nil) (fun _ _ _ _ _ => (pe_cmpR (k_in_seq K rfl) (pv 5) (pe_slice (k_sl_tupF K rfl) (pv 6) (po_some pe_int) po_none) (by with_unfolding_all rfl)))) pa_nil)))) (pss_one (ps_ret (pe_tupF (pa_cons pe_str (pa_cons (pv 3) (pa_cons (pv 5) pa_nil)))))) pss_nil)))
      (pss_one (ps_ret pe_non)))))), by
    rintro ⟨start, reach, es, x, y⟩ m ⟨hx, hy, hlt, hle, hb, hl⟩
    dsimp only at hx hy hlt hle hb hl ⊢
    refine q_when (EvT.is (b' := false) (et_not (et_B (ev_call (start, sTouch, x, y) (by walk_at "ev") rfl ⟨hx, hy⟩))) (by simp [hlt])) (fun h => nomatch h) fun _ => ?_
    refine q_asg (ev_call (start, sTouch, x, y) (by walk_at "ev") rfl ⟨hx, hy⟩) ?_
    dsimp only
    refine q_when (EvT.is (b' := false) (et_test (ev_op (by walk_at "ev2") (by walk_at "ev") op_I0b)) (by simp; exact hle)) (fun h => nomatch h) fun _ => ?_
    refine q_for (ei_tup (by walk_at "ev")) (fun i r' m' => m' = m ∧ ∃ o o2, r' = [some (encT start), some (.int (reach : Nat)), some (encS es), some (encT [sTouch, x, y]), some (encT (between start x y)), o, o2]) ⟨rfl, none, none, rfl⟩ (fun _ _ _ _ => trivial) ?_ ?_
    · rintro i d r' m' hd ⟨rfl, o, o2, rfl⟩
      obtain ⟨b, he, rfl⟩ := getEnc hd
      refine ⟨_, _, ga_name, ?_⟩
      refine s_when (EvT.is (b' := false) (et_not (et_B (ev_anyLc (ei_tup (by walk_at "ev")) (fun _ _ => trivial) (fun _ => true) (fun e : List Str => decide (b ∈ e.drop 1)) (fun e he => ⟨_, _, by decide, ga_name, et_yes, fun _ => ev_op (by walk_at "ev") (ev_tail (by walk_at "ev")) op_inTS⟩) (by omega)))) ?_) (fun h => nomatch h) fun _ => Wk.of ⟨rfl, _, _, rfl⟩
      rw [filter_tt, names_any (hb b (memGet he))]
      rfl
    · rintro r' m' ⟨rfl, o, o2, rfl⟩
      exact s_ret (by walk_at "ev") (fin0 rfl)⟩
theorem getIdx {α : Type} {enc : α → Dt} {l : List α} {i : Nat} {d : Dt} (h : (l.zipIdx.map fun p => Dt.tup [.int ((p.2 : Nat) : Int), enc p.1])[i]? = some d) : ∃ x, l[i]? = some x ∧ d = .tup [.int (i : Nat), enc x] := by
  rw [List.getElem?_map, List.getElem?_zipIdx] at h
  cases e : l[i]? with
  | none => rw [e] at h; cases h
  | some x =>
    rw [e] at h
    refine ⟨x, rfl, ?_⟩
    simpa using h.symm
abbrev spFault : Sp := spV (fun i : List Str × Nat × List (List Str) => [encT i.1, .int (i.2.1 : Nat), encS i.2.2]) (fun i => SoundS i.1 i.2.1 i.2.2 ∧ (names i.2.2).length ≤ 1000) fun _ => .non
theorem fn_fault_of (A : At K mg "fault_of" s_fault_of ["start", "reach", "sheet"]) (c_strange_or_twice : Fn P w K mg base 1 "strange_or_twice" spStrange) (c_touches_in : Fn P w K mg base 1 "touches_in" spTouches) (c_touch_fault : Fn P w K mg base 2 "touch_fault" spTFault) (c_is_crossed : Fn P w K mg base 2 "is_crossed" spCrossed) (Z : Nm mg) : Fn P w K mg base 3 "fault_of" spFault :=
  fn_at A sc_fault_of (fun _ => rfl) fun f cdv A outer s H E hr => ⟨_, (pss_cons (ps_set (i := 3) sc_fault_of.nd rfl (Or.inl rfl) (pe_fn c_strange_or_twice hr (by decide) (by rfl) (pa_cons (pv 0) (pa_cons (pv 2) pa_nil))))
      (pss_cons (ps_if (pt_cmp (pc_notN (pv 3))) (pss_one (ps_ret (pv 3))) pss_nil)
      (pss_cons (ps_set (i := 4) sc_fault_of.nd rfl (Or.inl rfl) (pe_fn c_touches_in hr (by decide) (by rfl) (pa_cons (pv 2) pa_nil)))
      (pss_cons (ps_for PassesOwn.never rfl (pi_list (pv 4)) (pg_name (i := 5) sc_fault_of.nd rfl (Or.inl rfl) (Or.inl rfl)) (pss_cons (ps_set (i := 3) sc_fault_of.nd rfl (Or.inl rfl) (pe_fn c_touch_fault hr (by decide) (by rfl) (pa_cons (pv 0) (pa_cons (pv 1) (pa_cons (pv 2) (pa_cons (pv 5) pa_nil))))))
      (pss_one (ps_if (pt_cmp (pc_notN (pv 3))) (pss_one (ps_ret (pv 3))) pss_nil))))
      (pss_cons (ps_for PassesOwn.never rfl (pi_enumB true (by rfl) Z.m_enumerate (pa_cons (pv 4) pa_nil)) (k_pgtup K rfl rfl (n := 2) (pgs_cons (pg_name (i := 6) sc_fault_of.nd rfl (Or.inl rfl) (Or.inl rfl)) (pgs_cons (pg_name (i := 7) sc_fault_of.nd rfl (Or.inl rfl) (Or.inl rfl)) pgs_nil))) (pss_one (ps_for PassesOwn.never rfl (pi_list (pe_slice (k_sl_list K rfl) (pv 4) po_none (po_some (pv 6)))) (pg_name (i := 8) sc_fault_of.nd rfl (Or.inl rfl) (Or.inl rfl)) (pss_one (ps_if (pt_val (pe_fn c_is_crossed hr (by decide) (by rfl) (pa_cons (pv 0) (pa_cons (pv 7) (pa_cons (pv 8) pa_nil))))) (pss_one (ps_ret (pe_tupF (pa_cons pe_str (pa_cons (pv 7) (pa_cons (pv 8) pa_nil)))))) pss_nil)))))
      (pss_one (ps_ret pe_non))))))), by
    rintro ⟨start, reach, es⟩ m ⟨hs, hn⟩
    dsimp only at hs hn ⊢
    refine q_asg (ev_call (start, es) (by walk_at "ev") rfl ⟨hs.nd, hs.inn, hs.form, hn⟩) ?_
    refine q_when (EvT.is (b' := false) (et_B (ev_notN (by walk_at "ev"))) rfl) (fun h => nomatch h) fun _ => ?_
    refine q_asgN (en_call es (by walk_at "ev") rfl ⟨hs.len, ne_of_form hs.form⟩) fun a na => ?_
    have tl : (touchesOf es).length ≤ 1000 := Nat.le_trans (List.length_filter_le _ _) hs.len
    have inx : ∀ {x y}, [sTouch, x, y] ∈ es → x ∈ start ∧ y ∈ start := fun h => ⟨hs.inn _ (names_mem h (by simp)), hs.inn _ (names_mem h (by simp))⟩
    refine q_for (ei_list (a := a) (ds := (touchesOf es).map encT) (by walk_at "ev") mu_same) (fun i r' m' => m' = mu m a (.lst ((touchesOf es).map encT)) ∧ ∃ o, r' = [some (encT start), some (.int (reach : Nat)), some (encS es), some .non, some (.ref a), o, none, none, none]) ⟨rfl, none, rfl⟩ (fun i r' m' h => by rw [h.1]; exact mu_same) ?_ ?_
    · rintro i d r' m' hd ⟨rfl, o, rfl⟩
      obtain ⟨e, he, rfl⟩ := getEnc hd
      obtain ⟨x, y, rfl, hm⟩ := touch_mem hs.form (memGet he)
      obtain ⟨hx, hy⟩ := inx hm
      obtain ⟨t1, t2, t3⟩ := hs.tch x y hm
      refine ⟨_, _, ga_name, ?_⟩
      refine q_asg (ev_call (start, reach, es, x, y) (by walk_at "ev") rfl ⟨hx, hy, t1, t2, t3, hs.len⟩) ?_
      exact s_when (EvT.is (b' := false) (et_B (ev_notN (by walk_at "ev"))) rfl) (fun h => nomatch h) fun _ => Wk.of ⟨rfl, some (encT [sTouch, x, y]), rfl⟩
    rintro r' m' ⟨rfl, o, rfl⟩
    refine q_for (ei_enumL (a := a) (ys := touchesOf es) (enc := encT) (by walk_at "ev") mu_same) (fun i r' m' => m' = mu m a (.lst ((touchesOf es).map encT)) ∧ ∃ o1 o2 o3, r' = [some (encT start), some (.int (reach : Nat)), some (encS es), some .non, some (.ref a), o, o1, o2, o3]) ⟨rfl, none, none, none, rfl⟩ (fun i r' m' h => by rw [h.1]; exact mu_same) ?_ ?_
    · rintro i d r' m' hd ⟨rfl, o1, o2, o3, rfl⟩
      obtain ⟨e, he, rfl⟩ := getIdx hd
      obtain ⟨x, y, rfl, hm⟩ := touch_mem hs.form (memGet he)
      obtain ⟨hx, hy⟩ := inx hm
      refine ⟨_, _, ga_tup rfl (gas_cons ga_name (gas_cons ga_name gas_nil)), ?_⟩
      refine s_for (ei_listN (ds := ((touchesOf es).take i).map encT) (EvN.is (en_slL (a := a) (by walk_at "ev") mu_same eo_none (eo_some (i := (i : Nat)) (by walk_at "ev"))) (by rw [cut_map, cut_b rfl]))) (fun j r' m' => m' = mu m a (.lst ((touchesOf es).map encT)) ∧ ∃ o3, r' = [some (encT start), some (.int (reach : Nat)), some (encS es), some .non, some (.ref a), o, some (.int (i : Nat)), some (encT [sTouch, x, y]), o3]) ⟨rfl, o3, rfl⟩ (fun _ _ _ _ => trivial) ?_ ?_
      · rintro j d r' m' hd ⟨rfl, o3, rfl⟩
        obtain ⟨e', he', rfl⟩ := getEnc hd
        obtain ⟨x', y', rfl, hm'⟩ := touch_mem hs.form (List.mem_of_mem_take (memGet he'))
        refine ⟨_, _, ga_name, ?_⟩
        refine s_when (EvT.is (b' := false) (et_B (ev_call (start, (sTouch, x, y), (sTouch, x', y')) (by walk_at "ev") rfl ⟨hx, hy⟩)) ?_) (fun h => nomatch h) fun _ => Wk.of ⟨rfl, some (encT [sTouch, x', y']), rfl⟩
        have := hs.crs x y x' y' hm hm'
        simp [this]
      · rintro r' m' ⟨rfl, o3, rfl⟩
        exact Wk.of ⟨rfl, some (.int (i : Nat)), some (encT [sTouch, x, y]), o3, rfl⟩
    · rintro r' m' ⟨rfl, o1, o2, o3, rfl⟩
      exact s_ret (by walk_at "ev") (fin (MLe.new na) rfl)⟩
def lenOf (start e : List Str) : Nat := if e.getD 0 default = sDrop then 1 else (between start (e.getD 1 default) (e.getD 2 default)).length + 2
abbrev spLenOf : Sp := spV (fun i : List Str × List Str => [encT i.1, encT i.2]) (fun i => isE i.2 ∧ ∀ x ∈ i.2.drop 1, x ∈ i.1) fun i => .int (lenOf i.1 i.2 : Nat)
theorem fn_length_of (A : At K mg "length_of" s_length_of ["start", "event"]) (c_boats_between : Fn P w K mg base 1 "boats_between" spBetween) (Z : Nm mg) : Fn P w K mg base 2 "length_of" spLenOf :=
  fn_at A sc_length_of (fun _ => rfl) fun f cdv A outer s H E hr => ⟨_, (pss_cons (ps_if (pt_cmpR op_eq (pe_ix (k_ix_tup K rfl) (pv 1) pe_int (fun _ _ => rfl)) pe_str (nomark _)) (pss_one (ps_ret pe_int)) pss_nil)
      (pss_one (ps_ret (pe_op op_add (pe_callB (k_len K rfl) (by rfl) Z.m_len b_len (pa_cons (pe_fn c_boats_between hr (by decide) (by rfl) (pa_cons (pv 0) (pa_cons (pv 1) pa_nil))) pa_nil)) pe_int)))), by
    rintro ⟨start, e⟩ m ⟨he, hin⟩
    dsimp only at he hin ⊢
    rcases he with ⟨x, rfl⟩ | ⟨x, y, rfl⟩
    · refine q_when (EvT.is (b' := true) (et_test (ev_op (ev_op (by walk_at "ev") (by walk_at "ev") (op_ixTk (xs := [sDrop, x]) 0 rfl)) (by walk_at "ev") op_eqS)) (by simp)) (fun _ => s_ret (by walk_at "ev") (fin0 (by simp [lenOf]))) fun h => nomatch h
    · have ne : ¬ (sTouch = sDrop) := by decide +kernel
      refine q_when (EvT.is (b' := false) (et_test (ev_op (ev_op (by walk_at "ev") (by walk_at "ev") (op_ixTk (xs := [sTouch, x, y]) 0 rfl)) (by walk_at "ev") op_eqS)) (decide_eq_false ne)) (fun h => nomatch h) fun _ => ?_
      refine s_ret (ev_op (ev_cbA (ea_cons (ev_call (start, sTouch, x, y) (by walk_at "ev") rfl ⟨hin x (by simp), hin y (by simp)⟩) ea_nil) ca_lenT) (by walk_at "ev") op_I0i) (fin0 ?_)
      have e : lenOf start [sTouch, x, y] = (between start x y).length + 2 := by
        unfold lenOf
        exact if_neg ne
      rw [e, List.length_map]
      rfl⟩
def spanned (start e : List Str) : Dt := .tup [.int (lenOf start e : Nat), encT e]
theorem py_spanned (start e : List Str) : py (spanned start e) = .tuple [.int (lenOf start e : Nat), py (encT e)] := by
  unfold spanned
  rw [py, pys_map]
  simp [py]
abbrev spOrder : Sp := spOf (fun i : List Str × Nat × List (List Str) => [encT i.1, .int (i.2.1 : Nat), encS i.2.2]) (fun i _ => SoundS i.1 i.2.1 i.2.2 ∧ (names i.2.2).length ≤ 1000) fun i m d m' => (∃ x, d = .tup [.str "course", x]) ∧ m' = m
theorem fn_order_of (A : At K mg "order_of" s_order_of ["start", "reach", "sheet"]) (c_fault_of : Fn P w K mg base 3 "fault_of" spFault) (c_length_of : Fn P w K mg base 2 "length_of" spLenOf) (Z : Nm mg) : Fn P w K mg base 4 "order_of" spOrder :=
  fn_at A sc_order_of (fun _ => rfl) fun f cdv A outer s H E hr => ⟨_, by
    have hu64 := hu64_of hr
    exact (pss_cons (ps_set (i := 3) sc_order_of.nd rfl (Or.inl rfl) (pe_fn c_fault_of hr (by decide) (by rfl) (pa_cons (pv 0) (pa_cons (pv 1) (pa_cons (pv 2) pa_nil)))))
      (pss_cons (ps_if (pt_cmp (pc_notN (pv 3))) (pss_one (ps_ret (pe_tupF (pa_cons pe_str (pa_cons (pv 3) pa_nil))))) pss_nil)
      (pss_cons (ps_set (i := 4) sc_order_of.nd rfl (Or.inl rfl) (pe_callB (k_sortD K rfl hu64) (by rfl) Z.m_sorted b_sorted (pa_cons (pe_lc (own := [("event", 5)]) rfl sc_order_of.nd (pi_tup (pv 2)) (blkOk_by (own := [("event", 5)]) (N := N_order_of) (sc := defScope s_order_of) (by decide +kernel)) (fun _ _ _ _ _ => (pg_name (i := 5) sc_order_of.nd rfl (Or.inl rfl) (Or.inr rfl))) (fun _ _ _ _ _ => pts_nil) (fun _ _ _ _ _ => (pe_tupF (pa_cons (pe_fn c_length_of hr (by decide) (by rfl) (pa_cons (pv 0) (pa_cons (pv 5) pa_nil))) (pa_cons (pv 5) pa_nil))))) pa_nil)))
      (pss_one (ps_ret (pe_tupF (pa_cons pe_str (pa_cons (pe_callTy (k_tupF K rfl) (by rfl) Z.m_tuple b_tuple (pa_cons (pe_lc (own := [("length", 6), ("event", 5)]) rfl sc_order_of.nd (pi_list (pv 4)) (blkOk_by (own := [("length", 6), ("event", 5)]) (N := N_order_of) (sc := defScope s_order_of) (by decide +kernel)) (fun _ _ _ _ _ => (k_pgtup K rfl rfl (n := 2) (pgs_cons (pg_name (i := 6) sc_order_of.nd rfl (Or.inl rfl) (Or.inr rfl)) (pgs_cons (pg_name (i := 5) sc_order_of.nd rfl (Or.inl rfl) (Or.inr rfl)) pgs_nil)))) (fun _ _ _ _ _ => pts_nil) (fun _ _ _ _ _ => (pv 5))) pa_nil)) pa_nil)))))))), by
    rintro ⟨start, reach, es⟩ m ⟨hs, hn⟩
    dsimp only at hs hn ⊢
    refine q_asg (ev_call (start, reach, es) (by walk_at "ev") rfl ⟨hs, hn⟩) ?_
    refine q_when (EvT.is (b' := false) (et_B (ev_notN (by walk_at "ev"))) rfl) (fun h => nomatch h) fun _ => ?_
    have hl := hs.len
    refine q_asgN (o := .lst ((es.mergeSort fun x y => leD (spanned start x) (spanned start y)).map (spanned start))) (EvN.is (en_cbN (en_lc (xs := es) (enc := encT) (ei_tup (by walk_at "ev")) (fun _ _ => trivial) (fun _ => true) (spanned start)
      (fun e he => ⟨_, _, by decide, ga_name, et_yes, fun _ => ev_tup (ea_cons (ev_call (start, e) (by walk_at "ev") rfl ⟨hs.form e he, fun x hx => hs.inn x (names_mem he hx)⟩) (ea_cons (by walk_at "ev") ea_nil))⟩) (by omega)) fun a na => ca_sortD mu_same ?_ ?_ ?_ ?_) ?_) fun a na => ?_
    · intro d hd
      obtain ⟨e, he, rfl⟩ := List.mem_map.mp hd
      unfold spanned
      rw [TB.pure, pures, pures, pure_encT e, pures]
      simp [TB.pure]
    · rw [List.map_map]
      intro d hd d' hd'
      obtain ⟨e, he, rfl⟩ := List.mem_map.mp hd
      obtain ⟨e', he', rfl⟩ := List.mem_map.mp hd'
      show PySem.W.alike (py (spanned start e)) (py (spanned start e')) = true
      have h1 := alike_encT e e'
      rw [py_spanned, py_spanned]
      simp [PySem.W.alike, PySem.W.alikeAll, h1]
    · refine .inl fun d hd => ?_
      rw [List.map_map] at hd
      obtain ⟨e, he, rfl⟩ := List.mem_map.mp hd
      exact ⟨_, _, py_spanned start e⟩
    · intro d hd
      obtain ⟨e, he, rfl⟩ := List.mem_map.mp hd
      rw [py_spanned]
      have := depth_encT e
      simp [PyData.depth, PyData.depthAll, this]
    · rw [filter_tt]
      exact congrArg MO.lst (List.map_mergeSort (f := spanned start) (l := es) fun _ _ _ _ => rfl).symm
    refine s_ret (ev_tup (ea_cons (by walk_at "ev") (ea_cons (ev_cbN (en_lc (xs := es.mergeSort fun x y => leD (spanned start x) (spanned start y)) (enc := spanned start) (ei_list (by walk_at "ev") mu_same) (fun m' l => l _ _ mu_same) (fun _ => true) encT
      (fun e he => ⟨_, _, by decide, ga_tup rfl (gas_cons ga_name (gas_cons ga_name gas_nil)), et_yes, fun _ => by walk_at "ev"⟩) (by rw [List.length_mergeSort]; omega)) fun b nb => ca_tupL mu_same) ea_nil))) (Wk.mk (MLe.new na) ⟨⟨_, rfl⟩, rfl⟩)⟩
abbrev spIsDay : Sp := spV (fun d : List (List (List Str)) => [encD d]) (fun d => 1 ≤ d.length ∧ d.length ≤ 24 ∧ ∀ e ∈ d, goodSheet e) fun _ => .bl true
theorem fn_is_day (A : At K mg "is_day" s_is_day ["thing"]) (c_is_sheet : Fn P w K mg base 3 "is_sheet" spIsSheet) (Z : Nm mg) : Fn P w K mg base 4 "is_day" spIsDay :=
  fn_at A sc_is_day (fun _ => rfl) fun f cdv A outer s H E hr => ⟨_, (pss_cons (ps_if (PW.pt (pw_or (pt_not (pt_val (pe_callB (k_isi K rfl) (by rfl) Z.m_isinstance b_isinstance (pa_cons (pv 0) (pa_cons (pe_ty (by rfl) Z.m_tuple b_tuple) pa_nil))))) (pw_or1 (pt_not (pt_chain op_le op_le pe_int (pe_callB (k_len K rfl) (by rfl) Z.m_len b_len (pa_cons (pv 0) pa_nil)) (pe_gcst (by rfl) Z.gMB)))))) (pss_one (ps_ret pe_bl)) pss_nil)
      (pss_one (ps_ret (pe_callB (k_all K rfl rfl) (by rfl) Z.m_all b_all (pa_cons (pe_lc (own := [("sheet", 1)]) rfl sc_is_day.nd (pi_tup (pv 0)) (blkOk_by (own := [("sheet", 1)]) (N := N_is_day) (sc := defScope s_is_day) (by decide +kernel)) (fun _ _ _ _ _ => (pg_name (i := 1) sc_is_day.nd rfl (Or.inl rfl) (Or.inr rfl))) (fun _ _ _ _ _ => pts_nil) (fun _ _ _ _ _ => (pe_fn c_is_sheet hr (by decide) (by rfl) (pa_cons (pv 1) pa_nil)))) pa_nil))))), by
    rintro d m ⟨h1, h2, h3⟩
    refine q_when (EvT.is (b' := false) (et_or (et_not (et_B (ev_isT (by walk_at "ev")))) fun _ => et_not (et_test (ev_chain (by walk_at "ev") (by walk_at "ev2") op_I0b (fun _ => by walk_at "ev") fun _ => op_I0b))) ?_) (fun h => nomatch h) fun _ => ?_
    · have e1 : decide ((1 : Int) ≤ ((d.length : Nat) : Int)) = true := decide_eq_true (by omega)
      have e2 : decide (((d.length : Nat) : Int) ≤ 24) = true := decide_eq_true (by omega)
      rw [List.length_map, e1, e2]
      rfl
    refine s_ret (ev_allLc (xs := d) (enc := encS) (ei_tup (by walk_at "ev")) (fun _ _ => trivial) (fun _ => true) (fun _ => true) (fun x hx => ⟨_, _, by decide, ga_name, et_yes, fun _ => ev_call x (by walk_at "ev") rfl (h3 x hx)⟩) (by omega)) (fin0 ?_)
    rw [all_tt _ (fun _ _ => rfl)]⟩
end
end TB
set_option Elab.async false
set_option linter.all false
set_option autoImplicit false
set_option maxRecDepth 100000
set_option maxHeartbeats 4000000
/-! The defs that follow a day. -/
namespace TB
open PySem PySem.Spec PyProof.Rows L2 RT
local macro_rules | `(tactic| walk_at "ev1") => `(tactic| first
  | ((with_reducible apply ev_var); rfl)
  | with_reducible exact ev_ci
  | with_reducible exact ev_cs
  | with_reducible exact ev_cb
  | with_reducible exact ev_cn
  | with_reducible apply ev_op
  | with_reducible apply ev_tup
  | with_reducible apply ev_isN
  | with_reducible apply ev_notN
  | with_reducible apply ev_notV
  | with_reducible exact op_I0i
  | with_reducible exact op_I0b
  | with_reducible exact op_eqS
  | with_reducible exact op_eqI
  | with_reducible exact op_neS
  | with_reducible exact op_neI
  | with_reducible exact op_isB
  | with_reducible exact op_inTS
  | with_reducible exact op_niTS
  | with_reducible exact op_inTI
  | with_reducible exact op_niTI
  | with_reducible apply op_ixT
  | with_reducible apply op_catT
  | with_reducible exact ea_nil
  | ((with_reducible show List.length _ ≤ 100000); first | decide | (simp <;> omega))
  | with_reducible apply ea_cons
  | with_reducible apply et_test
  | with_reducible apply et_B
  | with_reducible exact et_yes
  | with_reducible apply et_not
  | with_reducible exact ca_lenT
  | with_reducible exact ca_max
  | with_reducible exact ca_min
  | with_reducible exact eo_none
  | with_reducible apply eo_some
  | with_reducible apply ev_slT)
local macro_rules | `(tactic| walk_at "ev") => `(tactic| repeat' walk_at "ev1")
local macro_rules | `(tactic| walk_at "ev2") => `(tactic| repeat' first
  | walk_at "ev1"
  | (with_reducible apply op_mulN <;> omega)
  | (with_reducible apply op_divN <;> omega)
  | with_reducible apply ev_cbA
  | with_reducible apply ev_chain
  | with_reducible apply ev_if
  | with_reducible apply et_and
  | with_reducible apply et_or
  | with_reducible apply ev_andV
  | with_reducible apply ev_orV)

/-! ### events told apart -/
theorem eqv_strs : ∀ xs ys : List Str, PyData.eqvAll (xs.map .str) (ys.map .str) = decide (xs = ys)
  | [], [] => by simp [PyData.eqvAll]
  | [], _ :: _ => by simp [PyData.eqvAll]
  | _ :: _, [] => by simp [PyData.eqvAll]
  | x :: xs, y :: ys => by
    rw [List.map_cons, List.map_cons, PyData.eqvAll, eqv_strs xs ys, PyData.eqv]
    by_cases h : x = y
    · subst h; simp
    · have : (x == y) = false := by simpa using h
      simp [this, h]
theorem eqv_encT (a b : List Str) : PyData.eqv (py (encT a)) (py (encT b)) = decide (a = b) := by rw [py_encT, py_encT, PyData.eqv, eqv_strs]
def okT (ws : List Str) : Prop := ∀ x ∈ ws, PyData.strOk x = true
theorem can_strs : ∀ xs : List Str, okT xs → PyData.canLayAll0 (xs.map .str) = true
  | [], _ => by simp [PyData.canLayAll0]
  | x :: xs, h => by
    rw [List.map_cons, PyData.canLayAll0, can_strs xs fun y hy => h y (List.mem_cons_of_mem _ hy)]
    simp [PyData.canLay0, h x List.mem_cons_self]
theorem can_encT {a : List Str} (h : okT a) : (py (encT a)).canLay0 = true := by rw [py_encT, PyData.canLay0]; exact can_strs a h
theorem shaped_encT {a : List Str} (h : okT a) : SeqAt.shaped (py (encT a)) = true := by
  unfold SeqAt.shaped
  rw [can_encT h, depth_encT]; rfl
theorem pys_encs (es : List (List Str)) : pys (es.map encT) = es.map fun e => py (encT e) := by rw [pys_map, List.map_map]; rfl
theorem can_encs : ∀ es : List (List Str), (∀ e ∈ es, okT e) → PyData.canLayAll0 (es.map fun e => py (encT e)) = true
  | [], _ => by simp [PyData.canLayAll0]
  | e :: es, h => by
    rw [List.map_cons, PyData.canLayAll0, can_encs es fun y hy => h y (List.mem_cons_of_mem _ hy), can_encT (h e List.mem_cons_self)]
    rfl
theorem depth_encs : ∀ es : List (List Str), PyData.depthAll (es.map fun e => py (encT e)) ≤ 1
  | [] => by simp [PyData.depthAll]
  | e :: es => by
    rw [List.map_cons, PyData.depthAll, depth_encT]
    have := depth_encs es
    omega
theorem pures_encs (es : List (List Str)) : pures (es.map encT) = true := by
  rw [pures_all, List.all_map]
  exact List.all_eq_true.mpr fun x _ => pure_encT x
theorem shaped_tupS {es : List (List Str)} (h : ∀ e ∈ es, okT e) : SeqAt.shaped (.tuple (pys (es.map encT))) = true := by
  unfold SeqAt.shaped
  rw [pys_encs, PyData.canLay0, can_encs es h, PyData.depth]
  have := depth_encs es
  simp; omega
theorem shaped_lstS {es : List (List Str)} (h : ∀ e ∈ es, okT e) : SeqAt.shaped (.list (pys (es.map encT))) = true := by
  unfold SeqAt.shaped
  rw [pys_encs, PyData.canLay0, can_encs es h, PyData.depth]
  have := depth_encs es
  simp; omega
theorem any_encs (a : List Str) (es : List (List Str)) : ((pys (es.map encT)).any fun z => PyData.eqv z (py (encT a))) = decide (a ∈ es) := by
  rw [pys_encs, List.any_map]
  induction es with
  | nil => simp
  | cons e es ih =>
    rw [List.any_cons, ih]
    show (PyData.eqv (py (encT e)) (py (encT a)) || decide (a ∈ es)) = _
    rw [eqv_encT]
    by_cases h : e = a
    · subst h; simp
    · have h' : ¬ a = e := fun z => h z.symm
      simp [h, h']
section
variable {K : PySem.W.Frag} {m : Mp}
theorem op_inTT {a : List Str} {es : List (List Str)} (ha : okT a) (he : ∀ e ∈ es, okT e) : Op (rInT K) (encT a) (encS es) m (.bl (decide (a ∈ es))) := by
  rw [← any_encs]
  exact op_inTD (pure_encT a) (pures_encs es) (shaped_encT ha) (shaped_tupS he)
theorem op_niLT {a : List Str} {es : List (List Str)} {p : Addr} (hm : m p = some (.lst (es.map encT))) (ha : okT a) (he : ∀ e ∈ es, okT e) : Op (rNotInD K) (encT a) (.ref p) m (.bl (!decide (a ∈ es))) := by
  rw [← any_encs]
  exact op_niLD hm (pure_encT a) (pures_encs es) (shaped_encT ha) (shaped_lstS he)
end
/-! ### a day's way -/
abbrev Sheet := List (List Str)
def stepD (s n : Nat) (day : List Sheet) (row : List Str) (k : Nat) : List Str := layR s n k row (behindR (cutR s n k row) (day.getD k []))
def endD (s n : Nat) (day : List Sheet) (ks : List Nat) (row : List Str) : List Str := ks.foldl (stepD s n day) row
def RunK (s r n : Nat) (day : List Sheet) : List Nat → List Str → Prop
  | [], _ => True
  | k :: ks, row => (SoundS (cutR s n k row) r (day.getD k []) ∧ (names (day.getD k [])).length ≤ 1000) ∧ RunK s r n day ks (stepD s n day row k)
def startsOf (s n : Nat) (day : List Sheet) : List Nat → List Str → List (List Str)
  | [], _ => []
  | k :: ks, row => cutR s n k row :: startsOf s n day ks (stepD s n day row k)
section
variable {s r n : Nat} {day : List Sheet}
theorem runK_get : ∀ {ks : List Nat} {row : List Str} {i k : Nat}, RunK s r n day ks row → ks[i]? = some k → SoundS (cutR s n k (endD s n day (ks.take i) row)) r (day.getD k []) ∧ (names (day.getD k [])).length ≤ 1000
  | [], _, _, _, _, h => by simp at h
  | k' :: ks, row, 0, k, h, e => by
    simp at e
    subst e
    exact h.1
  | k' :: ks, row, i + 1, k, h, e => by
    have e' : ks[i]? = some k := by simpa using e
    exact runK_get (ks := ks) (row := stepD s n day row k') (i := i) h.2 e'
theorem starts_length : ∀ (ks : List Nat) (row : List Str), (startsOf s n day ks row).length = ks.length
  | [], _ => rfl
  | k :: ks, row => by rw [startsOf, List.length_cons, starts_length ks, List.length_cons]
theorem starts_snoc : ∀ (ks : List Nat) (row : List Str) (k : Nat), startsOf s n day (ks ++ [k]) row = startsOf s n day ks row ++ [cutR s n k (endD s n day ks row)]
  | [], _, _ => rfl
  | k' :: ks, row, k => by rw [List.cons_append, startsOf, starts_snoc ks, startsOf]; rfl
theorem mem_down {k : Nat} (h : k ∈ downR s n) (hs : 0 < s) (hn : 0 < n) : k < nRaces s n ∧ k * s < n := by
  have h1 : k < nRaces s n := by
    unfold downR at h
    rw [List.mem_reverse, List.mem_range] at h
    exact h
  refine ⟨h1, ?_⟩
  unfold nRaces at h1
  have h2 : (k + 1) * s ≤ n + s - 1 := (Nat.le_div_iff_mul_le hs).mp h1
  rw [Nat.add_mul] at h2
  omega
theorem cutR_length {α : Type} {row : List α} {k : Nat} (hl : row.length = n) (hk : k * s < n) : (cutR s n k row).length = min (k * s + s) (n - 1) + 1 - k * s := by
  unfold cutR
  rw [List.length_take, List.length_drop, hl]
  omega
theorem layR_length {α : Type} {row so : List α} {k : Nat} (hl : row.length = n) (hk : k * s < n) (h2 : so.length = (cutR s n k row).length) : (layR s n k row so).length = n := by
  rw [cutR_length hl hk] at h2
  unfold layR
  rw [List.length_append, List.length_append, List.length_take, List.length_drop, hl, h2]
  omega
theorem stepD_length {row : List Str} {k : Nat} (hl : row.length = n) (hk : k * s < n) : (stepD s n day row k).length = n := layR_length hl hk (behind_length _ _ _)
theorem endD_length : ∀ {ks : List Nat} {row : List Str}, row.length = n → (∀ k ∈ ks, k * s < n) → (endD s n day ks row).length = n
  | [], _, hl, _ => hl
  | k :: ks, row, hl, hk => endD_length (ks := ks) (stepD_length hl (hk k List.mem_cons_self)) fun j hj => hk j (List.mem_cons_of_mem _ hj)
theorem endD_take {ks : List Nat} {row : List Str} {i k : Nat} (h : ks[i]? = some k) : endD s n day (ks.take (i + 1)) row = stepD s n day (endD s n day (ks.take i) row) k := foldl_take h
end
section
variable {P : Program} {w : World} {K : PySem.W.Frag} {mg : Str → Option Value} {base : Heap}
/-- a day that is run: what its defs ask -/
structure RunD (s r : Nat) (day : List Sheet) (row : List Str) : Prop where
  s0 : 0 < s
  s1 : s < 1000
  n0 : 0 < row.length
  n1 : row.length < 1000
  many : day.length = nRaces s row.length
  run : RunK s r row.length day (downR s row.length) row
theorem RunD.at {s r : Nat} {day : List Sheet} {row : List Str} (D : RunD s r day row) {i k : Nat} (h : (downR s row.length)[i]? = some k) :
    k < 1000 ∧ k * s < row.length ∧ day[k]? = some (day.getD k []) ∧ (endD s row.length day ((downR s row.length).take i) row).length = row.length ∧ SoundS (cutR s row.length k (endD s row.length day ((downR s row.length).take i) row)) r (day.getD k []) ∧ (names (day.getD k [])).length ≤ 1000 := by
  obtain ⟨h1, h2⟩ := mem_down (memGet h) D.s0 D.n0
  have hk : k < 1000 := by
    have : k ≤ k * s := Nat.le_mul_of_pos_right k D.s0
    have := D.n1
    omega
  have hd : day[k]? = some (day.getD k []) := by
    have : k < day.length := by rw [D.many]; exact h1
    simp [this]
  exact ⟨hk, h2, hd, endD_length rfl fun j hj => (mem_down (List.mem_of_mem_take hj) D.s0 D.n0).2, runK_get D.run h⟩
abbrev spDayBehind : Sp := spV (fun i : Nat × Nat × List Str × List Sheet => [encM i.1 i.2.1, encT i.2.2.1, encD i.2.2.2]) (fun i => RunD i.1 i.2.1 i.2.2.2 i.2.2.1) fun i => .tup [.str "row", encT (endD i.1 i.2.2.1.length i.2.2.2 (downR i.1 i.2.2.1.length) i.2.2.1)]
theorem fn_day_behind (A : At K mg "day_behind" s_day_behind ["meeting", "row", "day"]) (c_races_of : Fn P w K mg base 1 "races_of" spRaces) (c_races_going : Fn P w K mg base 2 "races_going" spGoing) (c_start_on : Fn P w K mg base 2 "start_on" spStart) (c_order_of : Fn P w K mg base 4 "order_of" spOrder) (c_laid_on : Fn P w K mg base 2 "laid_on" spLaid) (c_row_behind : Fn P w K mg base 2 "row_behind" spBehind)
    (Z : Nm mg) : Fn P w K mg base 5 "day_behind" spDayBehind :=
  fn_at A sc_day_behind (fun _ => rfl) fun f cdv A outer s H E hr => ⟨_, (pss_cons (ps_set (i := 3) sc_day_behind.nd rfl (Or.inl rfl) (pe_fn c_races_of hr (by decide) (by rfl) (pa_cons (pv 0) (pa_cons (pe_callB (k_len K rfl) (by rfl) Z.m_len b_len (pa_cons (pv 1) pa_nil)) pa_nil))))
      (pss_cons (ps_if (pt_cmpR op_ne (pe_callB (k_len K rfl) (by rfl) Z.m_len b_len (pa_cons (pv 2) pa_nil)) (pv 3) (nomark _)) (pss_one (ps_ret (pe_tupF (pa_cons pe_str (pa_cons pe_non (pa_cons (pe_tupF (pa_cons pe_str (pa_cons (pv 3) pa_nil))) pa_nil)))))) pss_nil)
      (pss_cons (ps_for PassesOwn.never rfl (pi_list (pe_fn c_races_going hr (by decide) (by rfl) (pa_cons (pv 0) (pa_cons (pv 1) pa_nil)))) (pg_name (i := 4) sc_day_behind.nd rfl (Or.inl rfl) (Or.inl rfl)) (pss_cons (ps_set (i := 5) sc_day_behind.nd rfl (Or.inl rfl) (pe_fn c_start_on hr (by decide) (by rfl) (pa_cons (pv 0) (pa_cons (pv 1) (pa_cons (pv 4) pa_nil)))))
      (pss_cons (ps_asg (pe_fn c_order_of hr (by decide) (by rfl) (pa_cons (pv 5) (pa_cons (pe_ix (k_ix_tup K rfl) (pv 0) pe_int (fun _ _ => rfl)) (pa_cons (pe_ix (k_ix_tup K rfl) (pv 2) (pv 4) (fun _ _ => rfl)) pa_nil)))) (k_pgtup K rfl rfl (n := 2) (pgs_cons (pg_name (i := 6) sc_day_behind.nd rfl (Or.inl rfl) (Or.inl rfl)) (pgs_cons (pg_name (i := 7) sc_day_behind.nd rfl (Or.inl rfl) (Or.inl rfl)) pgs_nil))))
      (pss_cons (ps_if (pt_cmpR op_eq (pv 6) pe_str (nomark _)) (pss_one (ps_ret (pe_tupF (pa_cons (pv 6) (pa_cons (pv 4) (pa_cons (pv 7) pa_nil)))))) pss_nil)
      (pss_one (ps_set (i := 1) sc_day_behind.nd rfl (Or.inl rfl) (pe_fn c_laid_on hr (by decide) (by rfl) (pa_cons (pv 0) (pa_cons (pv 1) (pa_cons (pv 4) (pa_cons (pe_fn c_row_behind hr (by decide) (by rfl) (pa_cons (pv 5) (pa_cons (pe_ix (k_ix_tup K rfl) (pv 2) (pv 4) (fun _ _ => rfl)) pa_nil))) pa_nil)))))))))))
      (pss_one (ps_ret (pe_tupF (pa_cons pe_str (pa_cons (pv 1) pa_nil)))))))), by
    rintro ⟨s, r, row, day⟩ m D
    dsimp only at D ⊢
    refine q_asg (ev_call (s, r, row.length) (by walk_at "ev2") (by simp) ⟨D.s0, D.s1⟩) ?_
    refine q_when (EvT.is (b' := false) (et_test (ev_op (by walk_at "ev2") (by walk_at "ev") op_neI)) (by simp [D.many])) (fun h => nomatch h) fun _ => ?_
    refine q_for (ei_listN (en_call (s, r, row) (by walk_at "ev") rfl ⟨D.s0, D.s1, D.n1⟩)) (fun i r' m' => m' = m ∧ ∃ o1 o2 o3 o4, r' = [some (encM s r), some (encT (endD s row.length day ((downR s row.length).take i) row)), some (encD day), some (.int (nRaces s row.length : Nat)), o1, o2, o3, o4]) ⟨rfl, none, none, none, none, rfl⟩ (fun _ _ _ _ => trivial) ?_ ?_
    · rintro i d r' m' hd ⟨rfl, o1, o2, o3, o4, rfl⟩
      obtain ⟨k, hk, rfl⟩ := getEnc hd
      obtain ⟨k1, k2, k3, k4, k5, k6⟩ := D.at hk
      have h0 : endD s row.length day ((downR s row.length).take i) row ≠ [] := List.ne_nil_of_length_pos (by rw [k4]; exact D.n0)
      have et := endD_take (s := s) (n := row.length) (day := day) (row := row) hk
      have n1 := D.n1
      generalize hR : endD s row.length day ((downR s row.length).take i) row = R at k4 k5 h0 et
      refine ⟨_, _, ga_name, ?_⟩
      refine q_asg (ev_call (s, r, R, k) (by walk_at "ev") rfl ⟨D.s1, h0, k1⟩) ?_
      dsimp only
      rw [k4]
      refine q_seq (s_asgGX (ex_call (cutR s row.length k R, r, day.getD k []) (ea_cons (by walk_at "ev") (ea_cons (ev_op (by walk_at "ev") (by walk_at "ev") (op_ixTd 1 rfl)) (ea_cons (ev_op (by walk_at "ev") (by walk_at "ev") (op_ixTn rfl k3)) ea_nil))) rfl ⟨k5, k6⟩) ?_)
      rintro d m2 ⟨⟨x, rfl⟩, rfl⟩
      refine ⟨_, _, ga_tup rfl (gas_cons ga_name (gas_cons ga_name gas_nil)), ?_⟩
      refine q_when (EvT.is (b' := false) (et_test (ev_op (by walk_at "ev") (by walk_at "ev") op_eqS)) (by decide +kernel)) (fun h => nomatch h) fun _ => ?_
      have hb : (behindR (cutR s row.length k R) (day.getD k [])).length < 1000 := by
        rw [behindR, behind_length, cutR_length k4 k2]; omega
      refine s_asg (ev_call (s, r, R, k, behindR (cutR s row.length k R) (day.getD k [])) (ea_cons (by walk_at "ev") (ea_cons (by walk_at "ev") (ea_cons (by walk_at "ev") (ea_cons (ev_call (cutR s row.length k R, day.getD k []) (ea_cons (by walk_at "ev") (ea_cons (ev_op (by walk_at "ev") (by walk_at "ev") (op_ixTn rfl k3)) ea_nil)) rfl ⟨k5.form, k5.inn, k5.len⟩) ea_nil)))) rfl ⟨D.s1, h0, k1, by rw [k4]; exact D.n1, hb⟩) (Wk.of ⟨rfl, some (.int (k : Nat)), some (encT (cutR s row.length k R)), some (.str ("course" : Str)), some x, ?_⟩)
      dsimp only at et ⊢
      rw [k4, et]
      rfl
    · rintro r' m' ⟨rfl, o1, o2, o3, o4, rfl⟩
      refine s_ret (by walk_at "ev") (fin0 ?_)
      rw [List.length_map, List.take_length]⟩
end
end TB
set_option Elab.async false
set_option linter.all false
set_option autoImplicit false
set_option maxRecDepth 100000
set_option maxHeartbeats 4000000
/-! starts_of, all_rest, shows_can, are_places. -/
namespace TB
open PySem PySem.Spec PyProof.Rows L2 RT
local macro_rules | `(tactic| walk_at "ev1") => `(tactic| first
  | ((with_reducible apply ev_var); rfl)
  | with_reducible exact ev_ci
  | with_reducible exact ev_cs
  | with_reducible exact ev_cb
  | with_reducible exact ev_cn
  | with_reducible apply ev_op
  | with_reducible apply ev_tup
  | with_reducible apply ev_isN
  | with_reducible apply ev_notN
  | with_reducible apply ev_notV
  | with_reducible exact op_I0i
  | with_reducible exact op_I0b
  | with_reducible exact op_eqS
  | with_reducible exact op_eqI
  | with_reducible exact op_neS
  | with_reducible exact op_neI
  | with_reducible exact op_isB
  | with_reducible exact op_inTS
  | with_reducible exact op_niTS
  | with_reducible exact op_inTI
  | with_reducible exact op_niTI
  | with_reducible apply op_ixT
  | with_reducible apply op_catT
  | with_reducible exact ea_nil
  | ((with_reducible show List.length _ ≤ 100000); first | decide | (simp <;> omega))
  | with_reducible apply ea_cons
  | with_reducible apply et_test
  | with_reducible apply et_B
  | with_reducible exact et_yes
  | with_reducible apply et_not
  | with_reducible exact ca_lenT
  | with_reducible exact ca_max
  | with_reducible exact ca_min
  | with_reducible exact eo_none
  | with_reducible apply eo_some
  | with_reducible apply ev_slT)
local macro_rules | `(tactic| walk_at "ev") => `(tactic| repeat' walk_at "ev1")
local macro_rules | `(tactic| walk_at "ev2") => `(tactic| repeat' first
  | walk_at "ev1"
  | (with_reducible apply op_mulN <;> omega)
  | (with_reducible apply op_divN <;> omega)
  | with_reducible apply ev_cbA
  | with_reducible apply ev_chain
  | with_reducible apply ev_if
  | with_reducible apply et_and
  | with_reducible apply et_or
  | with_reducible apply ev_andV
  | with_reducible apply ev_orV)

section
variable {P : Program} {w : World} {K : PySem.W.Frag} {mg : Str → Option Value} {base : Heap}
def startsD (s : Nat) (day : List Sheet) (row : List Str) : List (List Str) := (startsOf s row.length day (downR s row.length) row).reverse
abbrev spStarts : Sp := spV (fun i : Nat × Nat × List Str × List Sheet => [encM i.1 i.2.1, encT i.2.2.1, encD i.2.2.2]) (fun i => RunD i.1 i.2.1 i.2.2.2 i.2.2.1) fun i => encS (startsD i.1 i.2.2.2 i.2.2.1)
theorem down_length (s n : Nat) : (downR s n).length = nRaces s n := by unfold downR; simp
theorem RunD.few {s r : Nat} {day : List Sheet} {row : List Str} (D : RunD s r day row) : nRaces s row.length ≤ 2000 := by
  have h1 := D.s1
  have h2 := D.n1
  exact Nat.le_trans (Nat.div_le_self _ _) (by omega)
theorem fn_starts_of (A : At K mg "starts_of" s_starts_of ["meeting", "row", "day"]) (c_races_going : Fn P w K mg base 2 "races_going" spGoing) (c_start_on : Fn P w K mg base 2 "start_on" spStart) (c_laid_on : Fn P w K mg base 2 "laid_on" spLaid) (c_row_behind : Fn P w K mg base 2 "row_behind" spBehind)
    (Z : Nm mg) : Fn P w K mg base 3 "starts_of" spStarts :=
  fn_at A sc_starts_of (fun _ => rfl) fun f cdv A outer s H E hr => ⟨_, (pss_cons (ps_set (i := 3) sc_starts_of.nd rfl (Or.inl rfl) (pe_lst pa_nil))
      (pss_cons (ps_for PassesOwn.never rfl (pi_list (pe_fn c_races_going hr (by decide) (by rfl) (pa_cons (pv 0) (pa_cons (pv 1) pa_nil)))) (pg_name (i := 4) sc_starts_of.nd rfl (Or.inl rfl) (Or.inl rfl)) (pss_cons (ps_set (i := 5) sc_starts_of.nd rfl (Or.inl rfl) (pe_fn c_start_on hr (by decide) (by rfl) (pa_cons (pv 0) (pa_cons (pv 1) (pa_cons (pv 4) pa_nil)))))
      (pss_cons (ps_expr (pe_bm PySem.F.plainAttrs_list PySem.F.slot_list_append PySem.F.type_list_append mt_append (pv 3) (pa_cons (pv 5) pa_nil)))
      (pss_one (ps_set (i := 1) sc_starts_of.nd rfl (Or.inl rfl) (pe_fn c_laid_on hr (by decide) (by rfl) (pa_cons (pv 0) (pa_cons (pv 1) (pa_cons (pv 4) (pa_cons (pe_fn c_row_behind hr (by decide) (by rfl) (pa_cons (pv 5) (pa_cons (pe_ix (k_ix_tup K rfl) (pv 2) (pv 4) (fun _ _ => rfl)) pa_nil))) pa_nil))))))))))
      (pss_cons (ps_expr (pe_bm0 PySem.F.plainAttrs_list PySem.F.slot_list_reverse PySem.F.type_list_reverse mt_reverse (pv 3)))
      (pss_one (ps_ret (pe_callTy (k_tupF K rfl) (by rfl) Z.m_tuple b_tuple (pa_cons (pv 3) pa_nil))))))), by
    rintro ⟨s, r, row, day⟩ m D
    dsimp only at D ⊢
    refine q_asgN (en_lst ea_nil) fun a na => ?_
    refine q_for (ei_listN (en_call (s, r, row) (by walk_at "ev") rfl ⟨D.s0, D.s1, D.n1⟩)) (fun i r' m' => m' = mu m a (.lst ((startsOf s row.length day ((downR s row.length).take i) row).map encT)) ∧ ∃ o1 o2, r' = [some (encM s r), some (encT (endD s row.length day ((downR s row.length).take i) row)), some (encD day), some (.ref a), o1, o2]) ⟨rfl, none, none, rfl⟩ (fun _ _ _ _ => trivial) ?_ ?_
    · rintro i d r' m' hd ⟨rfl, o1, o2, rfl⟩
      obtain ⟨k, hk, rfl⟩ := getEnc hd
      have hk : (downR s row.length)[i]? = some k := hk
      obtain ⟨k1, k2, k3, k4, k5, k6⟩ := D.at hk
      have h0 : endD s row.length day ((downR s row.length).take i) row ≠ [] := List.ne_nil_of_length_pos (by rw [k4]; exact D.n0)
      have et := endD_take (s := s) (n := row.length) (day := day) (row := row) hk
      have es : startsOf s row.length day ((downR s row.length).take (i + 1)) row = startsOf s row.length day ((downR s row.length).take i) row ++ [cutR s row.length k (endD s row.length day ((downR s row.length).take i) row)] := by
        rw [List.take_add_one, hk]
        exact starts_snoc _ _ _
      have n1 := D.n1
      have hlen : ((startsOf s row.length day ((downR s row.length).take i) row).map encT).length < 100000 := by
        rw [List.length_map, starts_length, List.length_take, down_length]
        have := D.few
        omega
      generalize hR : endD s row.length day ((downR s row.length).take i) row = R at k4 k5 h0 et es
      refine ⟨_, _, ga_name, ?_⟩
      refine q_asg (ev_call (s, r, R, k) (by walk_at "ev") rfl ⟨D.s1, h0, k1⟩) ?_
      dsimp only
      rw [k4]
      refine q_seq (s_app (a := a) (by walk_at "ev") mu_same (by walk_at "ev") hlen ?_)
      rw [mu_mu]
      have hb : (behindR (cutR s row.length k R) (day.getD k [])).length < 1000 := by
        rw [behindR, behind_length, cutR_length k4 k2]; omega
      refine s_asg (ev_call (s, r, R, k, behindR (cutR s row.length k R) (day.getD k [])) (ea_cons (by walk_at "ev") (ea_cons (by walk_at "ev") (ea_cons (by walk_at "ev") (ea_cons (ev_call (cutR s row.length k R, day.getD k []) (ea_cons (by walk_at "ev") (ea_cons (ev_op (by walk_at "ev") (by walk_at "ev") (op_ixTn rfl k3)) ea_nil)) rfl ⟨k5.form, k5.inn, k5.len⟩) ea_nil)))) rfl ⟨D.s1, h0, k1, by rw [k4]; exact D.n1, hb⟩) (Wk.of ⟨?_, some (.int (k : Nat)), some (encT (cutR s row.length k R)), ?_⟩)
      · rw [es, List.map_append]
        rfl
      · dsimp only at et ⊢
        rw [k4, et]
        rfl
    · rintro r' m' ⟨rfl, o1, o2, rfl⟩
      refine q_seq (s_rev (a := a) (by walk_at "ev") mu_same ?_)
      rw [mu_mu]
      refine s_ret (ev_cbA (ea_cons (by walk_at "ev") ea_nil) (ca_tupL mu_same)) (fin (MLe.new na) ?_)
      rw [List.length_map, List.take_length, ← List.map_reverse]
      rfl⟩
/-! ### the resting -/
def RestD (s : Nat) (resting : List Str) (day : List Sheet) (row : List Str) : Prop := ∀ p ∈ day.zip (startsD s day row), ∀ b ∈ resting, b ∈ p.2 → [sDrop, b] ∈ p.1
abbrev spRest : Sp := spV (fun i : Nat × Nat × List Str × List Str × List Sheet => [encM i.1 i.2.1, encT i.2.2.1, encT i.2.2.2.1, encD i.2.2.2.2]) (fun i => RunD i.1 i.2.1 i.2.2.2.2 i.2.2.1 ∧ RestD i.1 i.2.2.2.1 i.2.2.2.2 i.2.2.1 ∧ okT i.2.2.2.1 ∧ (∀ sh ∈ i.2.2.2.2, ∀ e ∈ sh, okT e) ∧ i.2.2.2.1.length ≤ 1000) fun _ => .bl true
theorem drop_ok : PyData.strOk sDrop = true := by decide +kernel
theorem fn_all_rest (A : At K mg "all_rest" s_all_rest ["meeting", "row", "resting", "day"]) (c_starts_of : Fn P w K mg base 3 "starts_of" spStarts) (Z : Nm mg) : Fn P w K mg base 4 "all_rest" spRest :=
  fn_at A sc_all_rest (fun _ => rfl) fun f cdv A outer s H E hr => ⟨_, by
    have hu65 := hu65_of hr
    exact (pss_cons (ps_for PassesOwn.never rfl (pi_zipB false false (by rfl) Z.m_zip (pa_cons (pv 3) (pa_cons (pe_fn c_starts_of hr (by decide) (by rfl) (pa_cons (pv 0) (pa_cons (pv 1) (pa_cons (pv 3) pa_nil)))) pa_nil))) (k_pgtup K rfl rfl (n := 2) (pgs_cons (pg_name (i := 4) sc_all_rest.nd rfl (Or.inr rfl) (Or.inl rfl)) (pgs_cons (pg_name (i := 5) sc_all_rest.nd rfl (Or.inr rfl) (Or.inl rfl)) pgs_nil))) (pss_one (ps_if (pt_not (pt_val (pe_callB (k_all K rfl rfl) (by rfl) Z.m_all b_all (pa_cons (pe_lc (own := [("boat", 6)]) rfl sc_all_rest.nd (pi_tup (pv 2)) (blkOk_by (own := [("boat", 6)]) (N := N_all_rest) (sc := defScope s_all_rest) (by decide +kernel)) (fun _ _ _ _ _ => (pg_name (i := 6) sc_all_rest.nd rfl (Or.inl rfl) (Or.inr rfl))) (fun _ _ _ _ _ => (pts_one (pt_cmpR (k_in_seq K rfl) (pv 6) (pv 5) (by with_unfolding_all rfl)))) (fun _ _ _ _ _ => (pe_cmpR (k_inT K rfl hu65) (pe_tupF (pa_cons pe_str (pa_cons (pv 6) pa_nil))) (pv 4) (by with_unfolding_all rfl)))) pa_nil)))) (pss_one (ps_ret pe_bl)) pss_nil)))
      (pss_one (ps_ret pe_bl))), by
    rintro ⟨s, r, row, resting, day⟩ m ⟨D, hR, ok1, ok2, hl⟩
    dsimp only at D hR ok1 ok2 hl ⊢
    refine q_for (ei_zipTT (xs := day) (ys := startsD s day row) (enc := encS) (enc' := encT) (ea_cons (by walk_at "ev") (ea_cons (ev_call (s, r, row, day) (by walk_at "ev") rfl D) ea_nil))) (fun i r' m' => m' = m ∧ ∃ o1 o2 o3, r' = [some (encM s r), some (encT row), some (encT resting), some (encD day), o1, o2, o3]) ⟨rfl, none, none, none, rfl⟩ (fun _ _ _ _ => trivial) ?_ ?_
    · rintro i d r' m' hd ⟨rfl, o1, o2, o3, rfl⟩
      rw [List.getElem?_map] at hd
      obtain ⟨⟨sh, st⟩, hp, rfl⟩ := Option.map_eq_some_iff.mp hd
      have hmem := memGet hp
      have hsh : sh ∈ day := (List.of_mem_zip hmem).1
      refine ⟨_, _, ga_tup rfl (gas_cons ga_name (gas_cons ga_name gas_nil)), ?_⟩
      refine s_when (EvT.is (b' := false) (et_not (et_B (ev_allLc (xs := resting) (enc := Dt.str) (ei_tup (by walk_at "ev")) (fun _ _ => trivial) (fun b : Str => decide (b ∈ st)) (fun b : Str => decide ([sDrop, b] ∈ sh)) (fun b hb => ⟨_, _, by decide, ga_name, et_test (ev_op (by walk_at "ev") (by walk_at "ev") op_inTS), fun _ => ev_op (ev_tup (ea_cons (by walk_at "ev") (ea_cons (by walk_at "ev") ea_nil))) (by walk_at "ev") (op_inTT (a := [sDrop, b]) (fun x hx => ?_) (ok2 sh hsh))⟩) (by omega)))) ?_) (fun h => nomatch h) fun _ => Wk.of ⟨rfl, _, _, _, rfl⟩
      · have : x = sDrop ∨ x = b := by simpa using hx
        rcases this with rfl | rfl
        · exact drop_ok
        · exact ok1 _ hb
      · have : (resting.filter fun b => decide (b ∈ st)).all (fun b => decide ([sDrop, b] ∈ sh)) = true := List.all_eq_true.mpr fun b hb => by
          obtain ⟨h1, h2⟩ := List.mem_filter.mp hb
          exact decide_eq_true (hR (sh, st) hmem b h1 (of_decide_eq_true h2))
        rw [this]
        rfl
    · rintro r' m' ⟨rfl, o1, o2, o3, rfl⟩
      exact s_ret (by walk_at "ev") (fin0 rfl)⟩
/-! ### days -/
def goodSh (es : Sheet) : Prop := goodSheet es ∧ ∀ e ∈ es, okT e
structure GoodDay (s r : Nat) (resting : List Str) (day : List Sheet) (row : List Str) : Prop where
  run : RunD s r day row
  rest : RestD s resting day row
  good : ∀ e ∈ day, goodSh e
  few : day.length ≤ 24
def GoodDays (s r : Nat) (resting : List Str) : List (List Sheet) → List Str → Prop
  | [], _ => True
  | d :: ds, row => GoodDay s r resting d row ∧ GoodDays s r resting ds (endD s row.length d (downR s row.length) row)
def endDays (s : Nat) (days : List (List Sheet)) (row : List Str) : List Str := days.foldl (fun row d => endD s row.length d (downR s row.length) row) row
theorem goodDays_get {s r : Nat} {resting : List Str} : ∀ {days : List (List Sheet)} {row : List Str} {i : Nat} {d : List Sheet}, GoodDays s r resting days row → days[i]? = some d → GoodDay s r resting d (endDays s (days.take i) row)
  | [], _, _, _, _, h => by simp at h
  | d' :: ds, row, 0, d, h, e => by
    simp at e
    subst e
    exact h.1
  | d' :: ds, row, i + 1, d, h, e => goodDays_get (days := ds) (row := endD s row.length d' (downR s row.length) row) (i := i) h.2 (by simpa using e)
theorem GoodDay.races {s r : Nat} {resting : List Str} {day : List Sheet} {row : List Str} (h : GoodDay s r resting day row) : 1 ≤ day.length := by
  rw [h.run.many]
  unfold nRaces
  have h0 := h.run.s0
  have h1 := h.run.n0
  exact (Nat.le_div_iff_mul_le h0).mpr (by omega)
abbrev encDs (days : List (List Sheet)) : Dt := .tup (days.map encD)
abbrev spShowsCan : Sp := spV (fun i : Nat × Nat × List Str × List Str × Nat × Str × List (List Sheet) => [encM i.1 i.2.1, encT i.2.2.1, encT i.2.2.2.1, .int (i.2.2.2.2.1 : Nat), .str i.2.2.2.2.2.1, encDs i.2.2.2.2.2.2])
  (fun i => i.2.2.1 ≠ [] ∧ i.2.2.2.2.2.2.length = i.2.2.2.2.1 ∧ GoodDays i.1 i.2.1 i.2.2.2.1 i.2.2.2.2.2.2 i.2.2.1 ∧ okT i.2.2.2.1 ∧ i.2.2.2.1.length ≤ 1000 ∧ i.2.2.2.2.1 ≤ 1000 ∧ (endDays i.1 i.2.2.2.2.2.2 i.2.2.1) ≠ []) fun i => .bl (decide ((endDays i.1 i.2.2.2.2.2.2 i.2.2.1).getD 0 default = i.2.2.2.2.2.1))
theorem fn_shows_can (A : At K mg "shows_can" s_shows_can ["meeting", "row", "resting", "many", "boat", "days"]) (c_is_day : Fn P w K mg base 4 "is_day" spIsDay) (c_day_behind : Fn P w K mg base 5 "day_behind" spDayBehind) (c_all_rest : Fn P w K mg base 4 "all_rest" spRest) (Z : Nm mg) : Fn P w K mg base 6 "shows_can" spShowsCan :=
  fn_at A sc_shows_can (fun _ => rfl) fun f cdv A outer s H E hr => ⟨_, (pss_cons (ps_if (PW.pt (pw_or (pt_not (pt_val (pe_callB (k_isi K rfl) (by rfl) Z.m_isinstance b_isinstance (pa_cons (pv 5) (pa_cons (pe_ty (by rfl) Z.m_tuple b_tuple) pa_nil))))) (pw_or (pt_cmpR op_ne (pe_callB (k_len K rfl) (by rfl) Z.m_len b_len (pa_cons (pv 5) pa_nil)) (pv 3) (nomark _)) (pw_or1 (pt_not (pt_val (pe_callB (k_all K rfl rfl) (by rfl) Z.m_all b_all (pa_cons (pe_lc (own := [("day", 6)]) rfl sc_shows_can.nd (pi_tup (pv 5)) (blkOk_by (own := [("day", 6)]) (N := N_shows_can) (sc := defScope s_shows_can) (by decide +kernel)) (fun _ _ _ _ _ => (pg_name (i := 6) sc_shows_can.nd rfl (Or.inl rfl) (Or.inr rfl))) (fun _ _ _ _ _ => pts_nil) (fun _ _ _ _ _ => (pe_fn c_is_day hr (by decide) (by rfl) (pa_cons (pv 6) pa_nil)))) pa_nil)))))))) (pss_one (ps_ret pe_bl)) pss_nil)
      (pss_cons (ps_for PassesOwn.never rfl (pi_tup (pv 5)) (pg_name (i := 6) sc_shows_can.nd rfl (Or.inl rfl) (Or.inl rfl)) (pss_cons (ps_set (i := 7) sc_shows_can.nd rfl (Or.inl rfl) (pe_fn c_day_behind hr (by decide) (by rfl) (pa_cons (pv 0) (pa_cons (pv 1) (pa_cons (pv 6) pa_nil)))))
      (pss_cons (ps_if (PW.pt (pw_or (pt_cmpR op_ne (pe_ix (k_ix_tup K rfl) (pv 7) pe_int (fun _ _ => rfl)) pe_str (nomark _)) (pw_or1 (pt_not (pt_val (pe_fn c_all_rest hr (by decide) (by rfl) (pa_cons (pv 0) (pa_cons (pv 1) (pa_cons (pv 2) (pa_cons (pv 6) pa_nil)))))))))) (pss_one (ps_ret pe_bl)) pss_nil)
      (pss_one (ps_set (i := 1) sc_shows_can.nd rfl (Or.inl rfl) (pe_ix (k_ix_tup K rfl) (pv 7) pe_int (fun _ _ => rfl)))))))
      (pss_one (ps_ret (pe_cmpR op_eq (pe_ix (k_ix_tup K rfl) (pv 1) pe_int (fun _ _ => rfl)) (pv 4) (nomark _)))))), by
    rintro ⟨s, r, row, resting, many, boat, days⟩ m ⟨h0, hm, hg, ok, hl, hl2, hz⟩
    dsimp only at h0 hm hg ok hl hl2 hz ⊢
    refine q_when (EvT.is (b' := false) (et_or (et_not (et_B (ev_isT (by walk_at "ev")))) fun _ => et_or (et_test (ev_op (by walk_at "ev2") (by walk_at "ev") op_neI)) fun _ => et_not (et_B (ev_allLc (xs := days) (enc := encD) (ei_tup (by walk_at "ev")) (fun _ _ => trivial) (fun _ => true) (fun _ => true) (fun d hd => ⟨_, _, by decide, ga_name, et_yes, fun _ => ev_call d (by walk_at "ev") rfl ?_⟩) (by omega)))) ?_) (fun h => nomatch h) fun _ => ?_
    · obtain ⟨i, hi⟩ := List.getElem?_of_mem hd
      have g := goodDays_get hg hi
      exact ⟨g.races, g.few, fun e he => (g.good e he).1⟩
    · rw [all_tt _ (fun _ _ => rfl), List.length_map, hm]
      simp
    refine q_for (ei_tup (by walk_at "ev")) (fun i r' m' => m' = m ∧ ∃ o1 o2, r' = [some (encM s r), some (encT (endDays s (days.take i) row)), some (encT resting), some (.int (many : Nat)), some (.str boat), some (encDs days), o1, o2]) ⟨rfl, none, none, rfl⟩ (fun _ _ _ _ => trivial) ?_ ?_
    · rintro i d r' m' hd ⟨rfl, o1, o2, rfl⟩
      obtain ⟨day, he, rfl⟩ := getEnc hd
      have g := goodDays_get hg he
      have et : endDays s (days.take (i + 1)) row = endD s (endDays s (days.take i) row).length day (downR s (endDays s (days.take i) row).length) (endDays s (days.take i) row) := foldl_take he
      generalize hR : endDays s (days.take i) row = R at g et
      refine ⟨_, _, ga_name, ?_⟩
      refine q_asg (ev_call (s, r, R, day) (by walk_at "ev") rfl g.run) ?_
      dsimp only
      refine q_when (EvT.is (b' := false) (et_or (et_test (ev_op (ev_op (by walk_at "ev") (by walk_at "ev") (op_ixTd 0 rfl)) (by walk_at "ev") op_neS)) fun _ => et_not (et_B (ev_call (s, r, R, resting, day) (by walk_at "ev") rfl ⟨g.run, g.rest, ok, fun sh h => (g.good sh h).2, hl⟩))) ?_) (fun h => nomatch h) fun _ => ?_
      · simp
      refine s_asg (ev_op (by walk_at "ev") (by walk_at "ev") (op_ixTd 1 rfl)) (Wk.of ⟨rfl, some (encD day), some (.tup [.str ("row" : Str), encT (endD s R.length day (downR s R.length) R)]), ?_⟩)
      rw [et]
      rfl
    · rintro r' m' ⟨rfl, o1, o2, rfl⟩
      have hlast : (endDays s days row)[0]? = some ((endDays s days row).getD 0 default) := by
        cases e : endDays s days row with
        | nil => exact absurd e hz
        | cons => rfl
      rw [List.length_map, List.take_length]
      exact s_ret (ev_op (ev_op (by walk_at "ev") (by walk_at "ev") (op_ixTk 0 hlast)) (by walk_at "ev") op_eqS) (fin0 rfl)⟩
abbrev spDaysRight : Sp := spV (fun i : Nat × Nat × List Str × List Str × Str × List (List Sheet) => [encM i.1 i.2.1, encT i.2.2.1, encT i.2.2.2.1, .str i.2.2.2.2.1, encDs i.2.2.2.2.2])
  (fun i => i.2.2.1 ≠ [] ∧ GoodDays i.1 i.2.1 i.2.2.2.1 i.2.2.2.2.2 i.2.2.1 ∧ okT i.2.2.2.1 ∧ i.2.2.2.1.length ≤ 1000 ∧ (endDays i.1 i.2.2.2.2.2 i.2.2.1) ≠ []) fun i => .bl (decide ((endDays i.1 i.2.2.2.2.2 i.2.2.1).getD 0 default = i.2.2.2.2.1))
theorem fn_days_right (A : At K mg "_law_days_right" s__law_days_right ["_law_meeting", "_law_row", "_law_resting", "_law_boat", "_law_days"]) (c_day_behind : Fn P w K mg base 5 "day_behind" spDayBehind) (c_starts_of : Fn P w K mg base 3 "starts_of" spStarts) (Z : Nm mg) : Fn P w K mg base 6 "_law_days_right" spDaysRight :=
  fn_at A sc__law_days_right (fun _ => rfl) fun f cdv A outer s H E hr => ⟨_, by
    have hu65 := hu65_of hr
    exact (pss_cons (ps_for PassesOwn.never rfl (pi_tup (pv 4)) (pg_name (i := 5) sc__law_days_right.nd rfl (Or.inl rfl) (Or.inl rfl)) (pss_cons (ps_set (i := 6) sc__law_days_right.nd rfl (Or.inl rfl) (pe_fn c_day_behind hr (by decide) (by rfl) (pa_cons (pv 0) (pa_cons (pv 1) (pa_cons (pv 5) pa_nil)))))
      (pss_cons (ps_if (pt_cmpR op_ne (pe_ix (k_ix_tup K rfl) (pv 6) pe_int (fun _ _ => rfl)) pe_str (nomark _)) (pss_one (ps_ret pe_bl)) pss_nil)
      (pss_cons (ps_for PassesOwn.never rfl (pi_zipB false false (by rfl) Z.m_zip (pa_cons (pv 5) (pa_cons (pe_fn c_starts_of hr (by decide) (by rfl) (pa_cons (pv 0) (pa_cons (pv 1) (pa_cons (pv 5) pa_nil)))) pa_nil))) (k_pgtup K rfl rfl (n := 2) (pgs_cons (pg_name (i := 7) sc__law_days_right.nd rfl (Or.inr rfl) (Or.inl rfl)) (pgs_cons (pg_name (i := 8) sc__law_days_right.nd rfl (Or.inr rfl) (Or.inl rfl)) pgs_nil))) (pss_one (ps_if (pt_not (pt_val (pe_callB (k_all K rfl rfl) (by rfl) Z.m_all b_all (pa_cons (pe_lc (own := [("_law_one", 9)]) rfl sc__law_days_right.nd (pi_tup (pv 2)) (blkOk_by (own := [("_law_one", 9)]) (N := N__law_days_right) (sc := defScope s__law_days_right) (by decide +kernel)) (fun _ _ _ _ _ => (pg_name (i := 9) sc__law_days_right.nd rfl (Or.inl rfl) (Or.inr rfl))) (fun _ _ _ _ _ => (pts_one (pt_cmpR (k_in_seq K rfl) (pv 9) (pv 8) (by with_unfolding_all rfl)))) (fun _ _ _ _ _ => (pe_cmpR (k_inT K rfl hu65) (pe_tupF (pa_cons pe_str (pa_cons (pv 9) pa_nil))) (pv 7) (by with_unfolding_all rfl)))) pa_nil)))) (pss_one (ps_ret pe_bl)) pss_nil)))
      (pss_one (ps_set (i := 1) sc__law_days_right.nd rfl (Or.inl rfl) (pe_ix (k_ix_tup K rfl) (pv 6) pe_int (fun _ _ => rfl))))))))
      (pss_one (ps_ret (pe_cmpR op_eq (pe_ix (k_ix_tup K rfl) (pv 1) pe_int (fun _ _ => rfl)) (pv 3) (nomark _))))), by
    rintro ⟨s, r, row, resting, boat, days⟩ m ⟨h0, hg, ok, hl, hz⟩
    dsimp only at h0 hg ok hl hz ⊢
    refine q_for (ei_tup (by walk_at "ev")) (fun i r' m' => m' = m ∧ ∃ o1 o2 o3 o4 o5, r' = [some (encM s r), some (encT (endDays s (days.take i) row)), some (encT resting), some (.str boat), some (encDs days), o1, o2, o3, o4, o5]) ⟨rfl, none, none, none, none, none, rfl⟩ (fun _ _ _ _ => trivial) ?_ ?_
    · rintro i d r' m' hd ⟨rfl, o1, o2, o3, o4, o5, rfl⟩
      obtain ⟨day, he, rfl⟩ := getEnc hd
      have g := goodDays_get hg he
      have et : endDays s (days.take (i + 1)) row = endD s (endDays s (days.take i) row).length day (downR s (endDays s (days.take i) row).length) (endDays s (days.take i) row) := foldl_take he
      generalize hR : endDays s (days.take i) row = R at g et
      refine ⟨_, _, ga_name, ?_⟩
      refine q_asg (ev_call (s, r, R, day) (by walk_at "ev") rfl g.run) ?_
      dsimp only
      refine q_when (EvT.is (b' := false) (et_test (ev_op (ev_op (by walk_at "ev") (by walk_at "ev") (op_ixTd 0 rfl)) (by walk_at "ev") op_neS)) (by simp)) (fun h => nomatch h) fun _ => ?_
      refine q_for (ei_zipTT (xs := day) (ys := startsD s day R) (enc := encS) (enc' := encT) (ea_cons (by walk_at "ev") (ea_cons (ev_call (s, r, R, day) (by walk_at "ev") rfl g.run) ea_nil))) (fun j r' m2 => m2 = m' ∧ ∃ o3 o4 o5, r' = [some (encM s r), some (encT R), some (encT resting), some (.str boat), some (encDs days), some (encD day), some (.tup [.str ("row" : Str), encT (endD s R.length day (downR s R.length) R)]), o3, o4, o5]) ⟨rfl, o3, o4, o5, rfl⟩ (fun _ _ _ _ => trivial) ?_ ?_
      · rintro j d r' m' hd ⟨rfl, o3, o4, o5, rfl⟩
        rw [List.getElem?_map] at hd
        obtain ⟨⟨sh, st⟩, hp, rfl⟩ := Option.map_eq_some_iff.mp hd
        have hmem := memGet hp
        have hsh : sh ∈ day := (List.of_mem_zip hmem).1
        refine ⟨_, _, ga_tup rfl (gas_cons ga_name (gas_cons ga_name gas_nil)), ?_⟩
        refine s_when (EvT.is (b' := false) (et_not (et_B (ev_allLc (xs := resting) (enc := Dt.str) (ei_tup (by walk_at "ev")) (fun _ _ => trivial) (fun b : Str => decide (b ∈ st)) (fun b : Str => decide ([sDrop, b] ∈ sh)) (fun b hb => ⟨_, _, by decide, ga_name, et_test (ev_op (by walk_at "ev") (by walk_at "ev") op_inTS), fun _ => ev_op (ev_tup (ea_cons (by walk_at "ev") (ea_cons (by walk_at "ev") ea_nil))) (by walk_at "ev") (op_inTT (a := [sDrop, b]) (fun x hx => ?_) (g.good sh hsh).2)⟩) (by omega)))) ?_) (fun h => nomatch h) fun _ => Wk.of ⟨rfl, _, _, _, rfl⟩
        · have : x = sDrop ∨ x = b := by simpa using hx
          rcases this with rfl | rfl
          · exact drop_ok
          · exact ok _ hb
        · have : (resting.filter fun b => decide (b ∈ st)).all (fun b => decide ([sDrop, b] ∈ sh)) = true := List.all_eq_true.mpr fun b hb => by
            obtain ⟨h1, h2⟩ := List.mem_filter.mp hb
            exact decide_eq_true (g.rest (sh, st) hmem b h1 (of_decide_eq_true h2))
          rw [this]
          rfl
      · rintro r' m' ⟨rfl, o3, o4, o5, rfl⟩
        refine s_asg (ev_op (by walk_at "ev") (by walk_at "ev") (op_ixTd 1 rfl)) (Wk.of ⟨rfl, some (encD day), some (.tup [.str ("row" : Str), encT (endD s R.length day (downR s R.length) R)]), o3, o4, o5, ?_⟩)
        rw [et]
        rfl
    · rintro r' m' ⟨rfl, o1, o2, o3, o4, o5, rfl⟩
      have hlast : (endDays s days row)[0]? = some ((endDays s days row).getD 0 default) := by
        cases e : endDays s days row with
        | nil => exact absurd e hz
        | cons => rfl
      rw [List.length_map, List.take_length]
      exact s_ret (ev_op (ev_op (by walk_at "ev") (by walk_at "ev") (op_ixTk 0 hlast)) (by walk_at "ev") op_eqS) (fin0 rfl)⟩
/-! ### places -/
abbrev spPlaces : Sp := spV (fun i : Nat × List Nat => [.int (i.1 : Nat), encN i.2]) (fun i => (∀ p ∈ i.2, p < i.1) ∧ i.2.Pairwise (· < ·) ∧ i.2.length ≤ 1000) fun _ => .bl true
theorem fn_are_places (A : At K mg "are_places" s_are_places ["n", "thing"]) (Z : Nm mg) : Fn P w K mg base 1 "are_places" spPlaces :=
  fn_at A sc_are_places (fun _ => rfl) fun f cdv A outer s H E hr => ⟨_, (pss_cons (ps_if (PW.pt (pw_or (pt_not (pt_val (pe_callB (k_isi K rfl) (by rfl) Z.m_isinstance b_isinstance (pa_cons (pv 1) (pa_cons (pe_ty (by rfl) Z.m_tuple b_tuple) pa_nil))))) (pw_or1 (pt_not (pt_val (pe_callB (k_all K rfl rfl) (by rfl) Z.m_all b_all (pa_cons (pe_lc (own := [("p", 2)]) rfl sc_are_places.nd (pi_tup (pv 1)) (blkOk_by (own := [("p", 2)]) (N := N_are_places) (sc := defScope s_are_places) (by decide +kernel)) (fun _ _ _ _ _ => (pg_name (i := 2) sc_are_places.nd rfl (Or.inl rfl) (Or.inr rfl))) (fun _ _ _ _ _ => pts_nil) (fun _ _ _ _ _ => (pe_and (pe_callB (k_isi K rfl) (by rfl) Z.m_isinstance b_isinstance (pa_cons (pv 2) (pa_cons (pe_ty (by rfl) Z.m_int b_int) pa_nil))) (pe_one (pe_not (pe_callB (k_isi K rfl) (by rfl) Z.m_isinstance b_isinstance (pa_cons (pv 2) (pa_cons (pe_ty (by rfl) Z.m_bool b_bool) pa_nil)))))))) pa_nil))))))) (pss_one (ps_ret pe_bl)) pss_nil)
      (pss_one (ps_ret (pe_and (pe_callB (k_all K rfl rfl) (by rfl) Z.m_all b_all (pa_cons (pe_lc (own := [("p", 2)]) rfl sc_are_places.nd (pi_tup (pv 1)) (blkOk_by (own := [("p", 2)]) (N := N_are_places) (sc := defScope s_are_places) (by decide +kernel)) (fun _ _ _ _ _ => (pg_name (i := 2) sc_are_places.nd rfl (Or.inl rfl) (Or.inr rfl))) (fun _ _ _ _ _ => pts_nil) (fun _ _ _ _ _ => (pe_chain op_le op_lt pe_int (pv 2) (pv 0)))) pa_nil)) (pe_one (pe_callB (k_all K rfl rfl) (by rfl) Z.m_all b_all (pa_cons (pe_lc (own := [("one", 3), ("other", 4)]) rfl sc_are_places.nd (pi_zipB false false (by rfl) Z.m_zip (pa_cons (pv 1) (pa_cons (pe_slice (k_sl_tupF K rfl) (pv 1) (po_some pe_int) po_none) pa_nil))) (blkOk_by (own := [("one", 3), ("other", 4)]) (N := N_are_places) (sc := defScope s_are_places) (by decide +kernel)) (fun _ _ _ _ _ => (k_pgtup K rfl rfl (n := 2) (pgs_cons (pg_name (i := 3) sc_are_places.nd rfl (Or.inl rfl) (Or.inr rfl)) (pgs_cons (pg_name (i := 4) sc_are_places.nd rfl (Or.inl rfl) (Or.inr rfl)) pgs_nil)))) (fun _ _ _ _ _ => pts_nil) (fun _ _ _ _ _ => (pe_cmpR op_lt (pv 3) (pv 4) (nomark _)))) pa_nil))))))), by
    rintro ⟨n, ps⟩ m ⟨h1, h2, hl⟩
    dsimp only at h1 h2 hl ⊢
    refine q_when (EvT.is (b' := false) (et_or (et_not (et_B (ev_isT (by walk_at "ev")))) fun _ => et_not (et_B (ev_allLc (xs := ps) (enc := fun p : Nat => Dt.int (p : Nat)) (ei_tup (by walk_at "ev")) (fun _ _ => trivial) (fun _ => true) (fun _ => true) (fun p hp => ⟨_, _, by decide, ga_name, et_yes, fun _ => Ev.is (ev_andV (ev_isI (i := ((p : Nat) : Int)) (by walk_at "ev")) fun _ => ev_notV (ev_isIB (i := ((p : Nat) : Int)) (by walk_at "ev"))) rfl⟩) (by omega)))) ?_) (fun h => nomatch h) fun _ => ?_
    · rw [all_tt _ (fun _ _ => rfl)]
      rfl
    refine s_ret (ev_andV (ev_allLc (xs := ps) (enc := fun p : Nat => Dt.int (p : Nat)) (ei_tup (by walk_at "ev")) (fun _ _ => trivial) (fun _ => true) (fun _ => true) (fun p hp => ⟨_, _, by decide, ga_name, et_yes, fun _ => Ev.is (ev_chain (by walk_at "ev") (by walk_at "ev") op_I0b (fun _ => by walk_at "ev") fun _ => op_I0b) ?_⟩) (by omega)) fun _ =>
      ev_allLc (ei_zipTT (xs := ps) (ys := ps.drop 1) (enc := fun p : Nat => Dt.int (p : Nat)) (enc' := fun p : Nat => Dt.int (p : Nat)) (ea_cons (by walk_at "ev") (ea_cons (ev_tail (by walk_at "ev")) ea_nil))) (fun _ _ => trivial) (fun _ => true) (fun p => decide (p.1 < p.2)) (fun p hp => ⟨_, _, by decide, ga_tup rfl (gas_cons ga_name (gas_cons ga_name gas_nil)), et_yes, fun _ => Ev.is (ev_op (by walk_at "ev") (by walk_at "ev") op_I0b) ?_⟩) (by rw [List.length_zip]; omega)) (fin0 ?_)
    · have e1 : decide ((0 : Int) ≤ ((p : Nat) : Int)) = true := decide_eq_true (by omega)
      have e2 : decide (((p : Nat) : Int) < ((n : Nat) : Int)) = true := decide_eq_true (by have := h1 p hp; omega)
      rw [e1, e2]
      rfl
    · exact congrArg Dt.bl (decide_eq_decide.mpr Int.ofNat_lt)
    · rw [all_tt _ (fun _ _ => rfl), filter_tt]
      have : (ps.zip (ps.drop 1)).all (fun p => decide (p.1 < p.2)) = true := List.all_eq_true.mpr fun p hp => by
        obtain ⟨i, hi, rfl⟩ := List.mem_iff_getElem.mp hp
        rw [List.length_zip, List.length_drop] at hi
        rw [List.getElem_zip, List.getElem_drop]
        exact decide_eq_true (List.pairwise_iff_getElem.mp h2 i (1 + i) (by omega) (by omega) (by omega))
      rw [this]
      rfl⟩
end
end TB
set_option Elab.async false
set_option linter.all false
set_option autoImplicit false
set_option maxRecDepth 100000
set_option maxHeartbeats 4000000
/-! moves_from and the days made by moves. -/
namespace TB
open PySem PySem.Spec PyProof.Rows L2 RT
local macro_rules | `(tactic| walk_at "ev1") => `(tactic| first
  | ((with_reducible apply ev_var); rfl)
  | with_reducible exact ev_ci
  | with_reducible exact ev_cs
  | with_reducible exact ev_cb
  | with_reducible exact ev_cn
  | with_reducible apply ev_op
  | with_reducible apply ev_tup
  | with_reducible apply ev_isN
  | with_reducible apply ev_notN
  | with_reducible apply ev_notV
  | with_reducible exact op_I0i
  | with_reducible exact op_I0b
  | with_reducible exact op_eqS
  | with_reducible exact op_eqI
  | with_reducible exact op_neS
  | with_reducible exact op_neI
  | with_reducible exact op_isB
  | with_reducible exact op_inTS
  | with_reducible exact op_niTS
  | with_reducible exact op_inTI
  | with_reducible exact op_niTI
  | with_reducible apply op_ixT
  | with_reducible apply op_catT
  | with_reducible exact ea_nil
  | ((with_reducible show List.length _ ≤ 100000); first | decide | (simp <;> omega))
  | with_reducible apply ea_cons
  | with_reducible apply et_test
  | with_reducible apply et_B
  | with_reducible exact et_yes
  | with_reducible apply et_not
  | with_reducible exact ca_lenT
  | with_reducible exact ca_max
  | with_reducible exact ca_min
  | with_reducible exact eo_none
  | with_reducible apply eo_some
  | with_reducible apply ev_slT)
local macro_rules | `(tactic| walk_at "ev") => `(tactic| repeat' walk_at "ev1")
local macro_rules | `(tactic| walk_at "ev2") => `(tactic| repeat' first
  | walk_at "ev1"
  | (with_reducible apply op_mulN <;> omega)
  | (with_reducible apply op_divN <;> omega)
  | with_reducible apply ev_cbA
  | with_reducible apply ev_chain
  | with_reducible apply ev_if
  | with_reducible apply et_and
  | with_reducible apply et_or
  | with_reducible apply ev_andV
  | with_reducible apply ev_orV)

abbrev Mv := Nat × Nat × Nat
abbrev encMv (p : Mv) : Dt := .tup [.int (p.1 : Nat), .int (p.2.1 : Nat), .int (p.2.2 : Nat)]
abbrev encMs (ms : List Mv) : Dt := .tup (ms.map encMv)
abbrev Found := List (Nat × List Mv)
abbrev encF (l : Found) : List (Key × Dt) := encK encMs l
def goalStep (places : List Nat) (k here : Nat) (moves : List Mv) (found : Found) (goal : Nat) : Found :=
  if goal ∉ places ∧ goal ∉ found.map (·.1) then found ++ [(goal, moves ++ [(k, here, goal)])] else found
def goalsOf (s r n k here : Nat) : List Nat := rangeN (max (k * s) (here - 1 - r)) (min (min (k * s + s) (n - 1)) (here + 1 + r) + 1)
def hereStep (s r n : Nat) (places : List Nat) (k : Nat) (found : Found) (here : Nat) : Found := (goalsOf s r n k here).foldl (goalStep places k here ((valD found here).getD [])) found
def heresOf (s n : Nat) (found : Found) (k : Nat) : List Nat := (found.map (·.1)).filter fun one => decide (k * s ≤ one) && decide (one ≤ min (k * s + s) (n - 1))
def raceStep (s r n : Nat) (places : List Nat) (found : Found) (k : Nat) : Found := (heresOf s n found k).foldl (hereStep s r n places k) found
def mfD (s r n : Nat) (places : List Nat) (p : Nat) : Found := if p ∈ places then [(p, [])] else (downR s n).foldl (raceStep s r n places) [(p, [])]
/-! how much it holds -/
theorem goal_keys {places : List Nat} {k here : Nat} {moves : List Mv} {found : Found} {goal : Nat} : (goalStep places k here moves found goal).map (·.1) = if goal ∉ places ∧ goal ∉ found.map (·.1) then found.map (·.1) ++ [goal] else found.map (·.1) := by
  unfold goalStep
  split
  · rw [List.map_append]; rfl
  · rfl
structure FOk (n : Nat) (found : Found) : Prop where
  nd : (found.map (·.1)).Nodup
  lt : ∀ q ∈ found.map (·.1), q < n
  ms : ∀ e ∈ found, e.2.length < found.length
theorem nodup_lt_length {l : List Nat} {n : Nat} (nd : l.Nodup) (h : ∀ q ∈ l, q < n) : l.length ≤ n := by
  have hs : l ⊆ List.range n := fun q hq => List.mem_range.mpr (h q hq)
  have := List.Nodup.length_le_of_subset nd hs
  simpa using this
theorem FOk.len {n : Nat} {found : Found} (h : FOk n found) : found.length ≤ n := by
  have := nodup_lt_length h.nd h.lt
  simpa using this
theorem valD_mem {α κ : Type} [DecidableEq κ] {l : List (κ × α)} {k : κ} {v : α} (h : valD l k = some v) : (k, v) ∈ l := by
  unfold valD at h
  obtain ⟨kv, h1, h2⟩ := Option.map_eq_some_iff.mp h
  have h3 := List.mem_of_find?_eq_some h1
  have h4 := of_decide_eq_true (List.find?_some (p := fun kv : κ × α => decide (kv.1 = k)) h1)
  rw [← h4, ← h2]
  exact h3
theorem valD_of_key {α κ : Type} [DecidableEq κ] {l : List (κ × α)} {k : κ} (h : k ∈ l.map (·.1)) : ∃ v, valD l k = some v ∧ (k, v) ∈ l := by
  have := valD_isSome (k := k) l
  rw [decide_eq_true h] at this
  obtain ⟨v, hv⟩ := Option.isSome_iff_exists.mp this
  exact ⟨v, hv, valD_mem hv⟩
section
variable {s r n k here : Nat} {places : List Nat} {moves : List Mv} {found : Found}
theorem fok_goal {goal : Nat} (h : FOk n found) (hg : goal < n) (hm : moves.length < found.length) : FOk n (goalStep places k here moves found goal) := by
  unfold goalStep
  split
  · rename_i hc
    refine ⟨?_, fun q hq => ?_, fun e he => ?_⟩
    · rw [List.map_append]
      refine List.nodup_append.mpr ⟨h.nd, by simp, fun a ha b hb => ?_⟩
      have : b = goal := by simpa using hb
      rw [this]
      exact fun e => hc.2 (e ▸ ha)
    · rw [List.map_append] at hq
      rcases List.mem_append.mp hq with hq | hq
      · exact h.lt q hq
      · have : q = goal := by simpa using hq
        rw [this]; exact hg
    · rw [List.length_append]
      rcases List.mem_append.mp he with he | he
      · have := h.ms e he; simp; omega
      · have : e = (goal, moves ++ [(k, here, goal)]) := by simpa using he
        rw [this]; simp; omega
  · exact h
theorem goal_le {goal : Nat} : found.length ≤ (goalStep places k here moves found goal).length := by
  unfold goalStep
  split
  · simp
  · exact Nat.le_refl _
theorem fok_goals : ∀ (gs : List Nat) {found : Found}, FOk n found → (∀ g ∈ gs, g < n) → moves.length < found.length → FOk n (gs.foldl (goalStep places k here moves) found) ∧ found.length ≤ (gs.foldl (goalStep places k here moves) found).length
  | [], _, h, _, _ => ⟨h, Nat.le_refl _⟩
  | g :: gs, found, h, hg, hm => by
    have h1 := fok_goal (places := places) (k := k) (here := here) h (hg g List.mem_cons_self) hm
    have l1 := goal_le (places := places) (k := k) (here := here) (moves := moves) (found := found) (goal := g)
    obtain ⟨a, b⟩ := fok_goals gs (found := goalStep places k here moves found g) h1 (fun x hx => hg x (List.mem_cons_of_mem _ hx)) (by omega)
    exact ⟨a, Nat.le_trans l1 b⟩
theorem goals_lt (hn : 0 < n) : ∀ g ∈ goalsOf s r n k here, g < n := fun g hg => by
  have := (mem_rangeN.mp hg).2
  omega
theorem goal_keep {goal q : Nat} (h : q ∈ found.map (·.1)) : q ∈ (goalStep places k here moves found goal).map (·.1) := by
  rw [goal_keys]
  split
  · exact List.mem_append_left _ h
  · exact h
theorem goals_keep : ∀ (gs : List Nat) {found : Found} {q : Nat}, q ∈ found.map (·.1) → q ∈ (gs.foldl (goalStep places k here moves) found).map (·.1)
  | [], _, _, h => h
  | g :: gs, _, _, h => goals_keep gs (goal_keep h)
theorem here_moves (h : FOk n found) (hh : here ∈ found.map (·.1)) : ((valD found here).getD []).length < found.length ∧ valD found here = some ((valD found here).getD []) := by
  obtain ⟨v, h1, h2⟩ := valD_of_key hh
  rw [h1]
  exact ⟨h.ms _ h2, rfl⟩
theorem fok_here (h : FOk n found) (hn : 0 < n) (hh : here ∈ found.map (·.1)) : FOk n (hereStep s r n places k found here) := (fok_goals _ h (goals_lt hn) (here_moves h hh).1).1
theorem here_keep {q : Nat} (h : q ∈ found.map (·.1)) : q ∈ (hereStep s r n places k found here).map (·.1) := goals_keep _ h
theorem heres_keep : ∀ (hs : List Nat) {found : Found} {q : Nat}, q ∈ found.map (·.1) → q ∈ (hs.foldl (hereStep s r n places k) found).map (·.1)
  | [], _, _, h => h
  | _ :: hs, _, _, h => heres_keep hs (here_keep h)
theorem fok_heres : ∀ (hs : List Nat) {found : Found}, FOk n found → 0 < n → (∀ h ∈ hs, h ∈ found.map (·.1)) → FOk n (hs.foldl (hereStep s r n places k) found)
  | [], _, h, _, _ => h
  | x :: hs, found, h, hn, hk => fok_heres hs (found := hereStep s r n places k found x) (fok_here h hn (hk x List.mem_cons_self)) hn fun y hy => here_keep (hk y (List.mem_cons_of_mem _ hy))
theorem heres_mem {x : Nat} (h : x ∈ heresOf s n found k) : x ∈ found.map (·.1) := (List.mem_filter.mp h).1
theorem fok_race (h : FOk n found) (hn : 0 < n) : FOk n (raceStep s r n places found k) := fok_heres _ h hn fun x hx => heres_mem hx
theorem fok_races : ∀ (ks : List Nat) {found : Found}, FOk n found → 0 < n → FOk n (ks.foldl (raceStep s r n places) found)
  | [], _, h, _ => h
  | _ :: ks, _, h, hn => fok_races ks (fok_race h hn) hn
theorem fok_one {p : Nat} (hp : p < n) : FOk n [(p, [])] := ⟨by simp, fun q hq => by
  have : q = p := by simpa using hq
  rw [this]; exact hp, fun e he => by
  have : e = (p, []) := by simpa using he
  rw [this]; simp⟩
theorem fok_mf {p : Nat} (hp : p < n) : FOk n (mfD s r n places p) := by
  unfold mfD
  split
  · exact fok_one hp
  · exact fok_races _ (fok_one hp) (by omega)
end
theorem encF_val {l : Found} {q : Nat} {ms : List Mv} (h : valD l q = some ms) : valD (encF l) (Sum.inl ((q : Nat) : Int)) = some (encMs ms) := by rw [valD_encK, h]; rfl
theorem encF_some (l : Found) (q : Nat) : (valD (encF l) (Sum.inl ((q : Nat) : Int))).isSome = decide (q ∈ l.map (·.1)) := by rw [valD_encK, Option.isSome_map, valD_isSome]
theorem op_inTN {K : PySem.W.Frag} {m : Mp} {x : Nat} {xs : List Nat} : Op (rIn K false) (.int (x : Nat)) (encN xs) m (.bl (decide (x ∈ xs))) := by
  have e : encN xs = .tup ((xs.map fun n => ((n : Nat) : Int)).map .int) := by simp [encN]
  rw [e]
  refine Op.is op_inTI (congrArg Dt.bl (decide_eq_decide.mpr ⟨fun h => ?_, fun h => List.mem_map.mpr ⟨x, h, rfl⟩⟩))
  obtain ⟨y, hy, e⟩ := List.mem_map.mp h
  have : y = x := by omega
  rw [← this]; exact hy
theorem op_niTN {K : PySem.W.Frag} {m : Mp} {x : Nat} {xs : List Nat} : Op (rIn K true) (.int (x : Nat)) (encN xs) m (.bl (!decide (x ∈ xs))) := by
  have e : encN xs = .tup ((xs.map fun n => ((n : Nat) : Int)).map .int) := by simp [encN]
  rw [e]
  refine Op.is op_niTI (congrArg Dt.bl (congrArg Bool.not (decide_eq_decide.mpr ⟨fun h => ?_, fun h => List.mem_map.mpr ⟨x, h, rfl⟩⟩)))
  obtain ⟨y, hy, e⟩ := List.mem_map.mp h
  have : y = x := by omega
  rw [← this]; exact hy
section
variable {P : Program} {w : World} {K : PySem.W.Frag} {mg : Str → Option Value} {base : Heap}
abbrev spMoves : Sp := spN (fun i : Nat × Nat × Nat × List Nat × Nat => [encM i.1 i.2.1, .int (i.2.2.1 : Nat), encN i.2.2.2.1, .int (i.2.2.2.2 : Nat)]) (fun i _ => 0 < i.1 ∧ i.1 < 1000 ∧ i.2.1 < 1000 ∧ i.2.2.1 < 1000 ∧ i.2.2.2.2 < i.2.2.1) fun i => .dic (encF (mfD i.1 i.2.1 i.2.2.1 i.2.2.2.1 i.2.2.2.2))
theorem fn_moves_from (A : At K mg "moves_from" s_moves_from ["meeting", "n", "places", "p"]) (c_races_of : Fn P w K mg base 1 "races_of" spRaces) (c_span : Fn P w K mg base 1 "span" spSpan) (Z : Nm mg) : Fn P w K mg base 2 "moves_from" spMoves :=
  fn_at A sc_moves_from (fun _ => rfl) fun f cdv A outer s H E hr => ⟨_, by
    have hu := hu_of hr
    exact (pss_cons (ps_set (i := 4) sc_moves_from.nd rfl (Or.inl rfl) (pe_disp (pps_cons (pv 3) (pe_tupF pa_nil) pps_nil) (by rfl) (by rfl) (by simp) (by decide)))
      (pss_cons (ps_if (pt_cmpR (k_in_seq K rfl) (pv 3) (pv 2) (by with_unfolding_all rfl)) (pss_one (ps_ret (pv 4))) pss_nil)
      (pss_cons (ps_for PassesOwn.never rfl (pi_revR (by rfl) Z.m_reversed (prg_1 (by rfl) Z.m_range (pe_fn c_races_of hr (by decide) (by rfl) (pa_cons (pv 0) (pa_cons (pv 1) pa_nil))))) (pg_name (i := 5) sc_moves_from.nd rfl (Or.inl rfl) (Or.inl rfl)) (pss_cons (ps_asg (pe_fn c_span hr (by decide) (by rfl) (pa_cons (pv 0) (pa_cons (pv 1) (pa_cons (pv 5) pa_nil)))) (k_pgtup K rfl rfl (n := 2) (pgs_cons (pg_name (i := 6) sc_moves_from.nd rfl (Or.inr rfl) (Or.inl rfl)) (pgs_cons (pg_name (i := 7) sc_moves_from.nd rfl (Or.inr rfl) (Or.inl rfl)) pgs_nil))))
      (pss_one (ps_for PassesOwn.never rfl (pi_list (pe_lock (pe_lc (own := [("one", 9)]) rfl sc_moves_from.nd (pi_keys (pv 4)) (blkOk_by (own := [("one", 9)]) (N := N_moves_from) (sc := defScope s_moves_from) (by decide +kernel)) (fun _ _ _ _ _ => (pg_name (i := 9) sc_moves_from.nd rfl (Or.inl rfl) (Or.inr rfl))) (fun _ _ _ _ _ => (pts_one (pt_chain op_le op_le (pv 6) (pv 9) (pv 7)))) (fun _ _ _ _ _ => (pv 9))))) (pg_name (i := 8) sc_moves_from.nd rfl (Or.inl rfl) (Or.inl rfl)) (pss_cons (ps_set (i := 10) sc_moves_from.nd rfl (Or.inl rfl) (pe_dget hu (pv 4) (pv 8) (fun _ _ => rfl)))
      (pss_one (ps_for PassesOwn.never rfl (pi_range2 (by rfl) Z.m_range (pa_cons (pe_callB (cr_max2 rfl) (by rfl) Z.m_max b_max (pa_cons (pv 6) (pa_cons (pe_op op_sub (pe_op op_sub (pv 8) pe_int) (pe_ix (k_ix_tup K rfl) (pv 0) pe_int (fun _ _ => rfl))) pa_nil))) (pa_cons (pe_op op_add (pe_callB (cr_min2 rfl) (by rfl) Z.m_min b_min (pa_cons (pv 7) (pa_cons (pe_op op_add (pe_op op_add (pv 8) pe_int) (pe_ix (k_ix_tup K rfl) (pv 0) pe_int (fun _ _ => rfl))) pa_nil))) pe_int) pa_nil))) (pg_name (i := 11) sc_moves_from.nd rfl (Or.inl rfl) (Or.inl rfl)) (pss_one (ps_if (PW.pt (pw_and (pt_cmpR (k_notIn_seq K rfl) (pv 11) (pv 2) (by with_unfolding_all rfl)) (pw_and1 (pt_cmp (pc_dnotin hu (pv 11) (pv 4)))))) (pss_one (ps_dput hu (pv 4) (pv 11) (pe_op (k_catF K rfl) (pv 10) (pe_tupF (pa_cons (pe_tupF (pa_cons (pv 5) (pa_cons (pv 8) (pa_cons (pv 11) pa_nil)))) pa_nil))) rfl)) pss_nil)))))))))
      (pss_one (ps_ret (pv 4)))))), by
    rintro ⟨s, r, n, places, p⟩ m ⟨h0, h1, h2, h3, h4⟩
    dsimp only at h0 h1 h2 h3 h4 ⊢
    have hn : 0 < n := by omega
    refine q_asgN (en_disp1 (k := Sum.inl ((p : Nat) : Int)) (d := encMs []) (by walk_at "ev") (ev_tup (ds := []) ea_nil)) fun a na => ?_
    by_cases hp : p ∈ places
    · refine q_when (EvT.is (b' := true) (et_test (ev_op (by walk_at "ev") (by walk_at "ev") op_inTN)) (decide_eq_true hp)) (fun _ => s_ret (by walk_at "ev") (Wk.of ⟨a, na, rfl, ?_⟩)) fun h => nomatch h
      unfold mfD
      rw [if_pos hp]
      rfl
    refine q_when (EvT.is (b' := false) (et_test (ev_op (by walk_at "ev") (by walk_at "ev") op_inTN)) (decide_eq_false hp)) (fun h => nomatch h) fun _ => ?_
    refine q_for (ei_revN (n := nRaces s n) (ev_call (s, r, n) (by walk_at "ev") rfl ⟨h0, h1⟩) (Nat.le_trans (Nat.div_le_self _ _) (by omega))) (fun i r' m' => m' = mu m a (.dic (encF (((downR s n).take i).foldl (raceStep s r n places) [(p, [])]))) ∧ ∃ o1 o2 o3 o4 o5 o6 o7, r' = [some (encM s r), some (.int (n : Nat)), some (encN places), some (.int (p : Nat)), some (.ref a), o1, o2, o3, o4, o5, o6, o7]) ⟨rfl, _, _, _, _, _, _, _, rfl⟩ (fun _ _ _ _ => trivial) ?_ ?_
    · rintro i d r' m' hd ⟨rfl, o1, o2, o3, o4, o5, o6, o7, rfl⟩
      obtain ⟨k, hk, rfl⟩ := getEnc hd
      have hk : (downR s n)[i]? = some k := hk
      obtain ⟨k1, k2⟩ := mem_down (memGet hk) h0 hn
      have k3 : k < 1000 := by
        have : k ≤ k * s := Nat.le_mul_of_pos_right k h0
        omega
      have fok := fok_races (s := s) (r := r) (n := n) (places := places) ((downR s n).take i) (fok_one h4) hn
      have et : ((downR s n).take (i + 1)).foldl (raceStep s r n places) [(p, [])] = raceStep s r n places (((downR s n).take i).foldl (raceStep s r n places) [(p, [])]) k := foldl_take hk
      generalize hF : ((downR s n).take i).foldl (raceStep s r n places) [(p, [])] = F at fok et
      rw [et]
      have fl := fok.len
      refine ⟨_, _, ga_name, ?_⟩
      refine q_asgG (ev_call (s, r, n, k) (by walk_at "ev") rfl ⟨h1, hn, k3⟩) (ga_tup rfl (gas_cons ga_name (gas_cons ga_name gas_nil))) ?_
      dsimp only
      refine s_for (ei_listN (en_keysLc (f := encMs) (l := F) (a := a) (fun m' => by walk_at "ev") mu_same (fun one => decide (k * s ≤ one) && decide (one ≤ min (k * s + s) (n - 1))) (fun x hx => ⟨_, _, by decide, ga_name, fun m' => EvT.is (et_test (ev_chain (by walk_at "ev") (by walk_at "ev") op_I0b (fun _ => by walk_at "ev") fun _ => op_I0b)) ?_, fun m' => by walk_at "ev"⟩) (by omega)))
        (fun j r' m' => m' = mu m a (.dic (encF (((heresOf s n F k).take j).foldl (hereStep s r n places k) F))) ∧ ∃ o4 o5 o6 o7, r' = [some (encM s r), some (.int (n : Nat)), some (encN places), some (.int (p : Nat)), some (.ref a), some (.int (k : Nat)), some (.int ((k * s : Nat) : Int)), some (.int ((min (k * s + s) (n - 1) : Nat) : Int)), o4, o5, o6, o7]) ⟨rfl, _, _, _, _, rfl⟩ (fun _ _ _ _ => trivial) ?_ ?_
      · have a1 : decide (((k * s : Nat) : Int) ≤ ((x : Nat) : Int)) = decide (k * s ≤ x) := decide_eq_decide.mpr Int.ofNat_le
        have a2 : decide (((x : Nat) : Int) ≤ ((min (k * s + s) (n - 1) : Nat) : Int)) = decide (x ≤ min (k * s + s) (n - 1)) := decide_eq_decide.mpr Int.ofNat_le
        rw [a1, a2]
      · rintro j d r' m' hd ⟨rfl, o4, o5, o6, o7, rfl⟩
        obtain ⟨h, hh, rfl⟩ := getEnc hd
        have hh : (heresOf s n F k)[j]? = some h := hh
        have hmem := memGet hh
        have hkey := heres_mem hmem
        have hlt := fok.lt h hkey
        have fok2 := fok_heres (s := s) (r := r) (places := places) (k := k) ((heresOf s n F k).take j) fok hn fun y hy => heres_mem (List.mem_of_mem_take hy)
        have hkey2 := heres_keep (s := s) (r := r) (n := n) (places := places) (k := k) ((heresOf s n F k).take j) hkey
        have et2 : ((heresOf s n F k).take (j + 1)).foldl (hereStep s r n places k) F = hereStep s r n places k (((heresOf s n F k).take j).foldl (hereStep s r n places k) F) h := foldl_take hh
        generalize hG : ((heresOf s n F k).take j).foldl (hereStep s r n places k) F = G at fok2 hkey2 et2
        rw [et2]
        obtain ⟨m1, m2⟩ := here_moves fok2 hkey2
        have gl := fok2.len
        refine ⟨_, _, ga_name, ?_⟩
        refine q_asg (ev_dget (a := a) (k := Sum.inl ((h : Nat) : Int)) (by walk_at "ev") (by walk_at "ev") mu_same (encF_val m2)) ?_
        generalize hM : (valD G h).getD [] = M at m1 m2
        refine s_for (ei_rngN (lo := max (k * s) (h - 1 - r)) (hi := min (min (k * s + s) (n - 1)) (h + 1 + r) + 1) (ea_cons (ev_cbA (ea_cons (by walk_at "ev") (ea_cons (ev_op (by walk_at "ev") (ev_op (by walk_at "ev") (by walk_at "ev") (op_ixTd 1 rfl)) op_I0i) ea_nil)) ca_max) (ea_cons (ev_op (ev_cbA (ea_cons (by walk_at "ev") (ea_cons (ev_op (by walk_at "ev") (ev_op (by walk_at "ev") (by walk_at "ev") (op_ixTd 1 rfl)) op_I0i) ea_nil)) ca_min) (by walk_at "ev") op_I0i) ea_nil)) (by omega) (by omega) (by omega))
          (fun l r' m' => m' = mu m a (.dic (encF (((goalsOf s r n k h).take l).foldl (goalStep places k h M) G))) ∧ ∃ o5 o7, r' = [some (encM s r), some (.int (n : Nat)), some (encN places), some (.int (p : Nat)), some (.ref a), some (.int (k : Nat)), some (.int ((k * s : Nat) : Int)), some (.int ((min (k * s + s) (n - 1) : Nat) : Int)), some (.int (h : Nat)), o5, some (encMs M), o7]) ⟨rfl, _, _, rfl⟩ (fun _ _ _ _ => trivial) ?_ ?_
        · rintro l d r' m' hd ⟨rfl, o5, o7, rfl⟩
          obtain ⟨g, hg, rfl⟩ := getEnc hd
          have hg : (goalsOf s r n k h)[l]? = some g := hg
          have glt := goals_lt (s := s) (r := r) (k := k) (here := h) hn g (memGet hg)
          obtain ⟨fok3, le3⟩ := fok_goals (places := places) (k := k) (here := h) (moves := M) ((goalsOf s r n k h).take l) fok2 (fun x hx => goals_lt hn x (List.mem_of_mem_take hx)) m1
          have et3 : ((goalsOf s r n k h).take (l + 1)).foldl (goalStep places k h M) G = goalStep places k h M (((goalsOf s r n k h).take l).foldl (goalStep places k h M) G) g := foldl_take hg
          generalize hJ : ((goalsOf s r n k h).take l).foldl (goalStep places k h M) G = J at fok3 le3 et3
          rw [et3]
          have jl := fok3.len
          refine ⟨_, _, ga_name, ?_⟩
          by_cases hc : g ∉ places ∧ g ∉ J.map (·.1)
          · refine s_when (EvT.is (b' := true) (et_and (et_test (ev_op (by walk_at "ev") (by walk_at "ev") op_niTN)) fun _ => et_B (ev_dni (a := a) (k := Sum.inl ((g : Nat) : Int)) (by walk_at "ev") (by walk_at "ev") mu_same)) (by rw [encF_some]; simp [hc])) (fun _ => ?_) fun h => nomatch h
            refine s_dput (a := a) (k := Sum.inl ((g : Nat) : Int)) (d := encMs (M ++ [(k, h, g)])) (Ev.is (ev_op (by walk_at "ev") (ev_tup (ea_cons (ev_tup (ea_cons (by walk_at "ev") (ea_cons (by walk_at "ev") (ea_cons (by walk_at "ev") ea_nil)))) ea_nil)) (op_catT (sz_of ?_))) ?_) (by walk_at "ev") (by walk_at "ev") mu_same (by simp; omega) (Wk.of ⟨?_, _, _, rfl⟩)
            · simp; omega
            · simp [encMs]
            · rw [mu_mu, putD_encK, putD_new hc.2]
              unfold goalStep
              rw [if_pos hc]
          · refine s_when (EvT.is (b' := false) (et_and (et_test (ev_op (by walk_at "ev") (by walk_at "ev") op_niTN)) fun _ => et_B (ev_dni (a := a) (k := Sum.inl ((g : Nat) : Int)) (by walk_at "ev") (by walk_at "ev") mu_same)) ?_) (fun h => nomatch h) fun _ => Wk.of ⟨?_, _, _, rfl⟩
            · rw [encF_some]
              by_cases h5 : g ∈ places
              · simp [h5]
              · have h6 : g ∈ J.map (·.1) := Classical.byContradiction fun h6 => hc ⟨h5, h6⟩
                simp only [h6, decide_true, Bool.not_true, Bool.and_false]
            · unfold goalStep
              rw [if_neg hc]
        · rintro r' m' ⟨rfl, o5, o7, rfl⟩
          refine Wk.of ⟨?_, _, _, _, _, rfl⟩
          rw [List.length_map]
          have : (rangeN (max (k * s) (h - 1 - r)) (min (min (k * s + s) (n - 1)) (h + 1 + r) + 1)).length = (goalsOf s r n k h).length := rfl
          rw [this, List.take_length]
          unfold hereStep
          rw [hM]
      · rintro r' m' ⟨rfl, o4, o5, o6, o7, rfl⟩
        refine Wk.of ⟨?_, _, _, _, _, _, _, _, rfl⟩
        rw [List.length_map]
        have : ((F.map (·.1)).filter fun one => decide (k * s ≤ one) && decide (one ≤ min (k * s + s) (n - 1))).length = (heresOf s n F k).length := rfl
        rw [this, List.take_length]
        rfl
    · rintro r' m' ⟨rfl, o1, o2, o3, o4, o5, o6, o7, rfl⟩
      refine s_ret (by walk_at "ev") (Wk.of ⟨a, na, rfl, ?_⟩)
      rw [List.length_map, List.length_reverse, List.length_range]
      have : nRaces s n = (downR s n).length := by unfold downR; simp
      rw [this, List.take_length]
      unfold mfD
      rw [if_neg hp]⟩
end
end TB
set_option Elab.async false
set_option linter.all false
set_option autoImplicit false
set_option maxRecDepth 100000
set_option maxHeartbeats 4000000
/-! days made by moves; places further on. -/
namespace TB
open PySem PySem.Spec PyProof.Rows L2 RT
local macro_rules | `(tactic| walk_at "ev1") => `(tactic| first
  | ((with_reducible apply ev_var); rfl)
  | with_reducible exact ev_ci
  | with_reducible exact ev_cs
  | with_reducible exact ev_cb
  | with_reducible exact ev_cn
  | with_reducible apply ev_op
  | with_reducible apply ev_tup
  | with_reducible apply ev_isN
  | with_reducible apply ev_notN
  | with_reducible apply ev_notV
  | with_reducible exact op_I0i
  | with_reducible exact op_I0b
  | with_reducible exact op_eqS
  | with_reducible exact op_eqI
  | with_reducible exact op_neS
  | with_reducible exact op_neI
  | with_reducible exact op_isB
  | with_reducible exact op_inTS
  | with_reducible exact op_niTS
  | with_reducible exact op_inTI
  | with_reducible exact op_niTI
  | with_reducible apply op_ixT
  | with_reducible apply op_catT
  | with_reducible exact ea_nil
  | ((with_reducible show List.length _ ≤ 100000); first | decide | (simp <;> omega))
  | with_reducible apply ea_cons
  | with_reducible apply et_test
  | with_reducible apply et_B
  | with_reducible exact et_yes
  | with_reducible apply et_not
  | with_reducible exact ca_lenT
  | with_reducible exact ca_max
  | with_reducible exact ca_min
  | with_reducible exact eo_none
  | with_reducible apply eo_some
  | with_reducible apply ev_slT)
local macro_rules | `(tactic| walk_at "ev") => `(tactic| repeat' walk_at "ev1")
local macro_rules | `(tactic| walk_at "ev2") => `(tactic| repeat' first
  | walk_at "ev1"
  | (with_reducible apply op_mulN <;> omega)
  | (with_reducible apply op_divN <;> omega)
  | with_reducible apply ev_cbA
  | with_reducible apply ev_chain
  | with_reducible apply ev_if
  | with_reducible apply et_and
  | with_reducible apply et_or
  | with_reducible apply ev_andV
  | with_reducible apply ev_orV)

def evLe (a b : List Str) : Bool := !evLt b a
def sortE (es : Sheet) : Sheet := es.mergeSort evLe
section
variable {P : Program} {w : World} {K : PySem.W.Frag} {mg : Str → Option Value} {base : Heap}
theorem ca_sortE {m : Mp} {a : Addr} {es : Sheet} (hm : m a = some (.lst (es.map encT))) (hne : ∀ e ∈ es, e ≠ []) : CaN (rSortD K) [.ref a] m (.lst ((sortE es).map encT)) := by
  have e : ((sortE es).map encT) = (es.map encT).mergeSort leD := List.map_mergeSort (f := encT) (l := es) fun _ _ _ _ => rfl
  rw [e]
  refine ca_sortD hm (fun d hd => ?_) (fun d hd d' hd' => ?_) (.inl fun d hd => ?_) fun d hd => ?_
  · obtain ⟨x, _, rfl⟩ := List.mem_map.mp hd
    exact pure_encT x
  · rw [List.map_map] at hd hd'
    obtain ⟨x, _, rfl⟩ := List.mem_map.mp hd
    obtain ⟨x', _, rfl⟩ := List.mem_map.mp hd'
    exact alike_encT x x'
  · rw [List.map_map] at hd
    obtain ⟨x, hx, rfl⟩ := List.mem_map.mp hd
    have := hne x hx
    show ∃ y r, py (encT x) = .tuple (y :: r)
    rw [py_encT]
    cases x with
    | nil => exact absurd rfl this
    | cons y ys => exact ⟨_, _, rfl⟩
  · obtain ⟨x, _, rfl⟩ := List.mem_map.mp hd
    rw [depth_encT]; decide
abbrev keysF {α : Type} (l : List (Nat × α)) : List Nat := sortN (l.map (·.1))
abbrev spPlacesBehind : Sp := spV (fun i : Nat × Nat × Nat × List Nat × Nat => [encM i.1 i.2.1, .int (i.2.2.1 : Nat), encN i.2.2.2.1, .int (i.2.2.2.2 : Nat)]) (fun i => 0 < i.1 ∧ i.1 < 1000 ∧ i.2.1 < 1000 ∧ i.2.2.1 < 60 ∧ i.2.2.2.2 < i.2.2.1) fun i => encN (keysF (mfD i.1 i.2.1 i.2.2.1 i.2.2.2.1 i.2.2.2.2))
theorem fn_places_behind (A : At K mg "places_behind" s_places_behind ["meeting", "n", "places", "p"]) (c_moves_from : Fn P w K mg base 2 "moves_from" spMoves) (Z : Nm mg) : Fn P w K mg base 3 "places_behind" spPlacesBehind :=
  fn_at A sc_places_behind (fun _ => rfl) fun f cdv A outer s H E hr => ⟨_, (pss_one (ps_ret (pe_callTy (k_tupF K rfl) (by rfl) Z.m_tuple b_tuple (pa_cons (pe_callB (cr_sortKeys rfl) (by rfl) Z.m_sorted b_sorted (pa_cons (pe_fn c_moves_from hr (by decide) (by rfl) (pa_cons (pv 0) (pa_cons (pv 1) (pa_cons (pv 2) (pa_cons (pv 3) pa_nil))))) pa_nil)) pa_nil)))), by
    rintro ⟨s, r, n, places, p⟩ m ⟨h0, h1, h2, h3, h4⟩
    dsimp only at h0 h1 h2 h3 h4 ⊢
    have fok := fok_mf (s := s) (r := r) (places := places) h4
    have fl := fok.len
    exact s_ret (ev_cbN (en_cbN (en_call (s, r, n, places, p) (by walk_at "ev") rfl ⟨h0, h1, h2, by dsimp only; omega, h4⟩) fun a na => ca_sortKeys (f := encMs) (l := mfD s r n places p) mu_same (by omega)) fun b nb => ca_tupL mu_same) (fin0 rfl)⟩
/-! ### a day by moves -/
def btw {α : Type} (row : List α) (a b : Nat) : List α := (row.drop (a + 1)).take (b - (a + 1))
abbrev DSt := List Str × Sheet × List Str
def mvStep (k : Nat) (resting : List Str) (st : DSt) (mv : Mv) : DSt :=
  if mv.1 = k then (st.1 ++ (btw st.2.2 (min mv.2.1 mv.2.2) (max mv.2.1 mv.2.2)).filter (fun b => decide (b ∉ resting)), st.2.1 ++ [[sTouch, st.2.2.getD (max mv.2.1 mv.2.2) default, st.2.2.getD (min mv.2.1 mv.2.2) default]], exch st.2.2 (min mv.2.1 mv.2.2) (max mv.2.1 mv.2.2))
  else st
def raceSt (s n : Nat) (resting : List Str) (moves : List Mv) (row : List Str) (k : Nat) : DSt := moves.foldl (mvStep k resting) ((cutR s n k row).filter (fun b => decide (b ∈ resting)), [], row)
def sheetOf (st : DSt) : Sheet := sortE (st.1.map (fun b => [sDrop, b]) ++ st.2.1)
def raceBy (s n : Nat) (resting : List Str) (moves : List Mv) (x : List Str × List Sheet) (k : Nat) : List Str × List Sheet := ((raceSt s n resting moves x.1 k).2.2, x.2 ++ [sheetOf (raceSt s n resting moves x.1 k)])
def dayBy (s n : Nat) (resting : List Str) (moves : List Mv) (row : List Str) : List Str × List Sheet := (downR s n).foldl (raceBy s n resting moves) (row, [])
structure MvOk (n : Nat) (moves : List Mv) : Prop where
  lt : ∀ mv ∈ moves, mv.2.1 < n ∧ mv.2.2 < n
  few : moves.length ≤ 100
theorem mv_len {k : Nat} {resting : List Str} {mv : Mv} {st : DSt} {n : Nat} (h : st.2.2.length = n) : (mvStep k resting st mv).2.2.length = n ∧ (mvStep k resting st mv).1.length ≤ st.1.length + n ∧ (mvStep k resting st mv).2.1.length ≤ st.2.1.length + 1 := by
  unfold mvStep
  split
  · refine ⟨by rw [exch_length]; exact h, ?_, by simp⟩
    rw [List.length_append]
    have h1 := List.length_filter_le (fun b => decide (b ∉ resting)) (btw st.2.2 (min mv.2.1 mv.2.2) (max mv.2.1 mv.2.2))
    have h2 : (btw st.2.2 (min mv.2.1 mv.2.2) (max mv.2.1 mv.2.2)).length ≤ n := by
      unfold btw
      rw [List.length_take, List.length_drop, h]
      omega
    omega
  · exact ⟨h, by omega, by omega⟩
theorem mvs_len {k : Nat} {resting : List Str} {n : Nat} : ∀ (mvs : List Mv) {st : DSt}, st.2.2.length = n → (mvs.foldl (mvStep k resting) st).2.2.length = n ∧ (mvs.foldl (mvStep k resting) st).1.length ≤ st.1.length + mvs.length * n ∧ (mvs.foldl (mvStep k resting) st).2.1.length ≤ st.2.1.length + mvs.length
  | [], st, h => ⟨h, by simp, by simp⟩
  | mv :: mvs, st, h => by
    obtain ⟨a1, a2, a3⟩ := mv_len (k := k) (resting := resting) (mv := mv) h
    obtain ⟨b1, b2, b3⟩ := mvs_len mvs (st := mvStep k resting st mv) a1
    rw [List.foldl_cons, List.length_cons, Nat.add_mul]
    exact ⟨b1, by omega, by omega⟩
theorem race_len {s n : Nat} {resting : List Str} {moves : List Mv} {x : List Str × List Sheet} {k : Nat} (h : x.1.length = n) : (raceBy s n resting moves x k).1.length = n ∧ (raceBy s n resting moves x k).2.length = x.2.length + 1 := ⟨(mvs_len moves h).1, by simp [raceBy]⟩
theorem races_len {s n : Nat} {resting : List Str} {moves : List Mv} : ∀ (ks : List Nat) {x : List Str × List Sheet}, x.1.length = n → (ks.foldl (raceBy s n resting moves) x).1.length = n ∧ (ks.foldl (raceBy s n resting moves) x).2.length = x.2.length + ks.length
  | [], _, h => ⟨h, by simp⟩
  | k :: ks, x, h => by
    obtain ⟨a, b⟩ := race_len (s := s) (resting := resting) (moves := moves) (k := k) h
    obtain ⟨c, d⟩ := races_len ks (x := raceBy s n resting moves x k) a
    rw [List.foldl_cons, List.length_cons]
    exact ⟨c, by omega⟩
abbrev spDayBy : Sp := spV (fun i : Nat × Nat × List Str × List Str × List Mv => [encM i.1 i.2.1, encT i.2.2.1, encT i.2.2.2.1, encMs i.2.2.2.2]) (fun i => 0 < i.1 ∧ i.1 < 1000 ∧ 0 < i.2.2.1.length ∧ i.2.2.1.length ≤ 100 ∧ MvOk i.2.2.1.length i.2.2.2.2) fun i => .tup [encD (dayBy i.1 i.2.2.1.length i.2.2.2.1 i.2.2.2.2 i.2.2.1).2.reverse, encT (dayBy i.1 i.2.2.1.length i.2.2.2.1 i.2.2.2.2 i.2.2.1).1]
theorem fn_day_by (A : At K mg "day_by" s_day_by ["meeting", "row", "resting", "moves"]) (c_races_of : Fn P w K mg base 1 "races_of" spRaces) (c_span : Fn P w K mg base 1 "span" spSpan) (c_exchanged : Fn P w K mg base 1 "exchanged" spExch) (Z : Nm mg) : Fn P w K mg base 2 "day_by" spDayBy :=
  fn_at A sc_day_by (fun _ => rfl) fun f cdv A outer s H E hr => ⟨_, by
    have hu64 := hu64_of hr
    exact (pss_cons (ps_set (i := 4) sc_day_by.nd rfl (Or.inl rfl) (pe_lst pa_nil))
      (pss_cons (ps_for PassesOwn.never rfl (pi_revR (by rfl) Z.m_reversed (prg_1 (by rfl) Z.m_range (pe_fn c_races_of hr (by decide) (by rfl) (pa_cons (pv 0) (pa_cons (pe_callB (k_len K rfl) (by rfl) Z.m_len b_len (pa_cons (pv 1) pa_nil)) pa_nil))))) (pg_name (i := 5) sc_day_by.nd rfl (Or.inl rfl) (Or.inl rfl)) (pss_cons (ps_asg (pe_fn c_span hr (by decide) (by rfl) (pa_cons (pv 0) (pa_cons (pe_callB (k_len K rfl) (by rfl) Z.m_len b_len (pa_cons (pv 1) pa_nil)) (pa_cons (pv 5) pa_nil)))) (k_pgtup K rfl rfl (n := 2) (pgs_cons (pg_name (i := 6) sc_day_by.nd rfl (Or.inl rfl) (Or.inl rfl)) (pgs_cons (pg_name (i := 7) sc_day_by.nd rfl (Or.inl rfl) (Or.inl rfl)) pgs_nil))))
      (pss_cons (ps_setLc (i := 8) (own := [("boat", 9)]) rfl sc_day_by.nd rfl rfl (sw_true rfl rfl rfl (by decide +kernel)) (pi_tup (pe_slice (k_sl_tupF K rfl) (pv 1) (po_some (pv 6)) (po_some (pe_op op_add (pv 7) pe_int)))) (blkOk_by (own := [("boat", 9)]) (N := N_day_by) (sc := defScope s_day_by) (by decide +kernel)) (fun _ _ _ _ _ => (pg_name (i := 9) sc_day_by.nd rfl (Or.inl rfl) (Or.inr rfl))) (fun _ _ _ _ _ => (pts_one (pt_cmpR (k_in_seq K rfl) (pv 9) (pv 2) (by with_unfolding_all rfl)))) (fun _ _ _ _ _ => (pv 9)))
      (pss_cons (ps_set (i := 10) sc_day_by.nd rfl (Or.inl rfl) (pe_lst pa_nil))
      (pss_cons (ps_for PassesOwn.never rfl (pi_tup (pv 3)) (k_pgtup K rfl rfl (n := 3) (pgs_cons (pg_name (i := 11) sc_day_by.nd rfl (Or.inl rfl) (Or.inl rfl)) (pgs_cons (pg_name (i := 12) sc_day_by.nd rfl (Or.inl rfl) (Or.inl rfl)) (pgs_cons (pg_name (i := 13) sc_day_by.nd rfl (Or.inl rfl) (Or.inl rfl)) pgs_nil)))) (pss_one (ps_if (pt_cmpR op_eq (pv 11) (pv 5) (nomark _)) (pss_cons (ps_par (i := 14) (j := 15) rfl sc_day_by.nd rfl rfl (by decide) rfl rfl (pa_cons (pe_callB (cr_min2 rfl) (by rfl) Z.m_min b_min (pa_cons (pv 12) (pa_cons (pv 13) pa_nil))) (pa_cons (pe_callB (cr_max2 rfl) (by rfl) Z.m_max b_max (pa_cons (pv 12) (pa_cons (pv 13) pa_nil))) pa_nil)) (by rfl))
      (pss_cons (ps_expr (pe_bm PySem.F.plainAttrs_list PySem.F.slot_list_extend PySem.F.type_list_extend mt_extend (pv 8) (pa_cons (pe_lc (own := [("boat", 9)]) rfl sc_day_by.nd (pi_tup (pe_slice (k_sl_tupF K rfl) (pv 1) (po_some (pe_op op_add (pv 14) pe_int)) (po_some (pv 15)))) (blkOk_by (own := [("boat", 9)]) (N := N_day_by) (sc := defScope s_day_by) (by decide +kernel)) (fun _ _ _ _ _ => (pg_name (i := 9) sc_day_by.nd rfl (Or.inl rfl) (Or.inr rfl))) (fun _ _ _ _ _ => (pts_one (pt_cmpR (k_notIn_seq K rfl) (pv 9) (pv 2) (by with_unfolding_all rfl)))) (fun _ _ _ _ _ => (pv 9))) pa_nil)))
      (pss_cons (ps_expr (pe_bm PySem.F.plainAttrs_list PySem.F.slot_list_append PySem.F.type_list_append mt_append (pv 10) (pa_cons (pe_tupF (pa_cons pe_str (pa_cons (pe_ix (k_ix_tup K rfl) (pv 1) (pv 15) (fun _ _ => rfl)) (pa_cons (pe_ix (k_ix_tup K rfl) (pv 1) (pv 14) (fun _ _ => rfl)) pa_nil)))) pa_nil)))
      (pss_one (ps_set (i := 1) sc_day_by.nd rfl (Or.inl rfl) (pe_fn c_exchanged hr (by decide) (by rfl) (pa_cons (pv 1) (pa_cons (pv 14) (pa_cons (pv 15) pa_nil))))))))) pss_nil)))
      (pss_one (ps_expr (pe_bm PySem.F.plainAttrs_list PySem.F.slot_list_append PySem.F.type_list_append mt_append (pv 4) (pa_cons (pe_callTy (k_tupF K rfl) (by rfl) Z.m_tuple b_tuple (pa_cons (pe_callB (k_sortD K rfl hu64) (by rfl) Z.m_sorted b_sorted (pa_cons (pe_op op_cat (pe_lc (own := [("boat", 9)]) rfl sc_day_by.nd (pi_list (pv 8)) (blkOk_by (own := [("boat", 9)]) (N := N_day_by) (sc := defScope s_day_by) (by decide +kernel)) (fun _ _ _ _ _ => (pg_name (i := 9) sc_day_by.nd rfl (Or.inl rfl) (Or.inr rfl))) (fun _ _ _ _ _ => pts_nil) (fun _ _ _ _ _ => (pe_tupF (pa_cons pe_str (pa_cons (pv 9) pa_nil))))) (pv 10)) pa_nil)) pa_nil)) pa_nil)))))))))
      (pss_one (ps_ret (pe_tupF (pa_cons (pe_tupRevF rfl (by rfl) Z.m_tuple (by rfl) Z.m_reversed (pv 4)) (pa_cons (pv 1) pa_nil))))))), by
    rintro ⟨s, r, row, resting, moves⟩ m ⟨h0, h1, h2, h3, hm⟩
    dsimp only at h0 h1 h2 h3 hm ⊢
    have hdn : nRaces s row.length ≤ 2000 := Nat.le_trans (Nat.div_le_self _ _) (by omega)
    refine q_asgN (en_lst ea_nil) fun a na => ?_
    refine q_for (ei_revN (n := nRaces s row.length) (ev_call (s, r, row.length) (by walk_at "ev2") (by simp) ⟨h0, h1⟩) (by omega)) (fun i r' m' => MLe (mu m a (.lst ((((downR s row.length).take i).foldl (raceBy s row.length resting moves) (row, [])).2.map encS))) m' ∧ ∃ o1 o2 o3 o4 o5 o6 o7 o8 o9 o10 o11, r' = [some (encM s r), some (encT (((downR s row.length).take i).foldl (raceBy s row.length resting moves) (row, [])).1), some (encT resting), some (encMs moves), some (.ref a), o1, o2, o3, o4, o5, o6, o7, o8, o9, o10, o11]) ⟨MLe.refl _, _, _, _, _, _, _, _, _, _, _, _, rfl⟩ (fun _ _ _ _ => trivial) ?_ ?_
    · rintro i d r' m' hd ⟨hle, o1, o2, o3, o4, o5, o6, o7, o8, o9, o10, o11, rfl⟩
      obtain ⟨k, hk, rfl⟩ := getEnc hd
      have hk : (downR s row.length)[i]? = some k := hk
      obtain ⟨k1, k2⟩ := mem_down (memGet hk) h0 h2
      have k3 : k < 1000 := by
        have : k ≤ k * s := Nat.le_mul_of_pos_right k h0
        omega
      obtain ⟨xl, xl2⟩ := races_len (s := s) (resting := resting) (moves := moves) ((downR s row.length).take i) (x := (row, [])) rfl
      have et : ((downR s row.length).take (i + 1)).foldl (raceBy s row.length resting moves) (row, []) = raceBy s row.length resting moves (((downR s row.length).take i).foldl (raceBy s row.length resting moves) (row, [])) k := foldl_take hk
      rw [et]
      have xl3 : ((downR s row.length).take i).length ≤ 2000 := by rw [List.length_take, down_length]; omega
      generalize hX : ((downR s row.length).take i).foldl (raceBy s row.length resting moves) (row, []) = X at hle xl xl2 et
      obtain ⟨R, sheets⟩ := X
      dsimp only at hle xl xl2
      have z0 : ([] : List Sheet).length = 0 := rfl
      have sl : sheets.length ≤ 2000 := by omega
      refine ⟨_, _, ga_name, ?_⟩
      have hma : m' a = some (.lst (sheets.map encS)) := hle _ _ mu_same
      refine St.less (m := mu m a (.lst (sheets.map encS))) ?_ hle
      refine q_asgG (ev_call (s, r, row.length, k) (by walk_at "ev2") (by simp [xl]) ⟨h1, h2, k3⟩) (ga_tup rfl (gas_cons ga_name (gas_cons ga_name gas_nil))) ?_
      dsimp only
      have c1 : cut (R.map Dt.str) (some ((k * s : Nat) : Int)) (some (((min (k * s + s) (row.length - 1) : Nat) : Int) + 1)) = (cutR s row.length k R).map Dt.str := by
        rw [cut_map, cut_ab (a := k * s) (b := min (k * s + s) (row.length - 1) + 1) (by omega) (by omega)]
        rfl
      have cl : (cutR s row.length k R).length ≤ 200 := by rw [cutR_length xl k2]; omega
      refine q_asgN (en_lc (xs := cutR s row.length k R) (enc := Dt.str) (ei_tup (Ev.is (by walk_at "ev2") (congrArg Dt.tup c1))) (fun _ _ => trivial) (fun b => decide (b ∈ resting)) Dt.str (fun b hb => ⟨_, _, by decide, ga_name, et_test (ev_op (by walk_at "ev") (by walk_at "ev") op_inTS), fun _ => by walk_at "ev"⟩) (by omega)) fun a2 n2 => ?_
      refine q_asgN (en_lst ea_nil) fun a3 n3 => ?_
      have ne12 : a2 ≠ a := fun e => by rw [e, mu_same] at n2; cases n2
      have ne23 : a3 ≠ a2 := fun e => by rw [e, mu_same] at n3; cases n3
      have ne13 : a3 ≠ a := fun e => by rw [e, mu_ne (Ne.symm ne12), mu_same] at n3; cases n3
      refine q_for (ei_tup (by walk_at "ev")) (fun j r' m' => m' = mu (mu (mu m a (.lst (sheets.map encS))) a2 (.lst (((moves.take j).foldl (mvStep k resting) ((cutR s row.length k R).filter (fun b => decide (b ∈ resting)), [], R)).1.map .str))) a3 (.lst (((moves.take j).foldl (mvStep k resting) ((cutR s row.length k R).filter (fun b => decide (b ∈ resting)), [], R)).2.1.map encT))
        ∧ ∃ o5 o7 o8 o9 o10 o11, r' = [some (encM s r), some (encT ((moves.take j).foldl (mvStep k resting) ((cutR s row.length k R).filter (fun b => decide (b ∈ resting)), [], R)).2.2), some (encT resting), some (encMs moves), some (.ref a), some (.int (k : Nat)), some (.int ((k * s : Nat) : Int)), some (.int ((min (k * s + s) (row.length - 1) : Nat) : Int)), some (.ref a2), o5, some (.ref a3), o7, o8, o9, o10, o11]) ⟨rfl, _, _, _, _, _, _, rfl⟩ (fun _ _ _ _ => trivial) ?_ ?_
      · rintro j d r' m' hd ⟨rfl, o5, o7, o8, o9, o10, o11, rfl⟩
        obtain ⟨mv, hmv, rfl⟩ := getEnc hd
        obtain ⟨mk, mh, mg'⟩ := mv
        obtain ⟨lt1, lt2⟩ := hm.lt _ (memGet hmv)
        dsimp only at lt1 lt2
        obtain ⟨b1, b2, b3⟩ := mvs_len (k := k) (resting := resting) (moves.take j) (st := ((cutR s row.length k R).filter (fun b => decide (b ∈ resting)), [], R)) xl
        have et2 : (moves.take (j + 1)).foldl (mvStep k resting) ((cutR s row.length k R).filter (fun b => decide (b ∈ resting)), [], R) = mvStep k resting ((moves.take j).foldl (mvStep k resting) ((cutR s row.length k R).filter (fun b => decide (b ∈ resting)), [], R)) (mk, mh, mg') := foldl_take hmv
        rw [et2]
        have tl : (moves.take j).length ≤ 100 := Nat.le_trans (by rw [List.length_take]; omega) hm.few
        have fl := List.length_filter_le (fun b => decide (b ∈ resting)) (cutR s row.length k R)
        have tl2 : (moves.take j).length * row.length ≤ 100 * 100 := Nat.mul_le_mul tl h3
        generalize hT : (moves.take j).foldl (mvStep k resting) ((cutR s row.length k R).filter (fun b => decide (b ∈ resting)), [], R) = T at b1 b2 b3 et2
        obtain ⟨D1, S1, R1⟩ := T
        dsimp only at b1 b2 b3
        have hD : D1.length ≤ 20000 := by omega
        have z1 : ([] : Sheet).length = 0 := rfl
        have hS : List.length S1 ≤ 1000 := by omega
        refine ⟨_, _, ga_tup rfl (gas_cons ga_name (gas_cons ga_name (gas_cons ga_name gas_nil))), ?_⟩
        by_cases hk2 : mk = k
        · subst hk2
          refine s_when (EvT.is (b' := true) (et_test (ev_op (by walk_at "ev") (by walk_at "ev") op_eqI)) (by simp)) (fun _ => ?_) fun h => nomatch h
          have emin : min ((mh : Nat) : Int) ((mg' : Nat) : Int) = ((min mh mg' : Nat) : Int) := by omega
          have emax : max ((mh : Nat) : Int) ((mg' : Nat) : Int) = ((max mh mg' : Nat) : Int) := by omega
          refine q_par (ea_cons (Ev.is (ev_cbA (by walk_at "ev") ca_min) (congrArg Dt.int emin)) (ea_cons (Ev.is (ev_cbA (by walk_at "ev") ca_max) (congrArg Dt.int emax)) ea_nil)) ?_
          have c2 : cut (R1.map Dt.str) (some (((min mh mg' : Nat) : Int) + 1)) (some ((max mh mg' : Nat) : Int)) = (btw R1 (min mh mg') (max mh mg')).map Dt.str := by
            rw [cut_map, cut_ab (a := min mh mg' + 1) (b := max mh mg') (by omega) rfl]
            rfl
          have bl : (btw R1 (min mh mg') (max mh mg')).length ≤ 100 := by
            unfold btw
            rw [List.length_take, List.length_drop, b1]
            omega
          have bf := List.length_filter_le (fun b => decide (b ∉ resting)) (btw R1 (min mh mg') (max mh mg'))
          refine q_seq (s_extN (a := a2) (ds := D1.map .str) (by walk_at "ev") (by rw [mu_ne (Ne.symm ne23), mu_same]) (en_lc (xs := btw R1 (min mh mg') (max mh mg')) (enc := Dt.str) (ei_tup (Ev.is (by walk_at "ev2") (congrArg Dt.tup c2))) (fun _ _ => trivial) (fun b => decide (b ∉ resting)) Dt.str (fun b hb => ⟨_, _, by decide, ga_name, EvT.is (et_test (ev_op (by walk_at "ev") (by walk_at "ev") op_niTS)) (by simp), fun _ => by walk_at "ev"⟩) (by omega)) (by rw [List.length_map, List.length_map]; omega) ?_)
          have g1 : R1[max mh mg']? = some (R1.getD (max mh mg') default) := by
            have : max mh mg' < R1.length := by omega
            simp [this]
          have g2 : R1[min mh mg']? = some (R1.getD (min mh mg') default) := by
            have : min mh mg' < R1.length := by omega
            simp [this]
          refine q_seq (s_app (a := a3) (ds := S1.map encT) (d := encT [sTouch, R1.getD (max mh mg') default, R1.getD (min mh mg') default]) (by walk_at "ev") (by rw [mu_ne ne23, mu_same]) (ev_tup (ea_cons (by walk_at "ev") (ea_cons (ev_op (by walk_at "ev") (by walk_at "ev") (op_ixTn rfl g1)) (ea_cons (ev_op (by walk_at "ev") (by walk_at "ev") (op_ixTn rfl g2)) ea_nil)))) (by rw [List.length_map]; omega) ?_)
          refine s_asg (ev_call (R1, min mh mg', max mh mg') (by walk_at "ev") rfl ⟨by dsimp only; omega, by dsimp only; omega⟩) (Wk.of ⟨?_, o5, some (.int (mk : Nat)), some (.int (mh : Nat)), some (.int (mg' : Nat)), some (.int ((min mh mg' : Nat) : Int)), some (.int ((max mh mg' : Nat) : Int)), ?_⟩)
          · unfold mvStep
            rw [if_pos rfl]
            dsimp only
            rw [mu_comm (a := a3) (b := a2) ne23, mu_mu, mu_mu, List.map_append, List.map_append]
            rfl
          · unfold mvStep
            rw [if_pos rfl]
            rfl
        · refine s_when (EvT.is (b' := false) (et_test (ev_op (by walk_at "ev") (by walk_at "ev") op_eqI)) (decide_eq_false (by omega))) (fun h => nomatch h) fun _ => Wk.of ⟨?_, o5, some (.int (mk : Nat)), some (.int (mh : Nat)), some (.int (mg' : Nat)), o10, o11, ?_⟩
          · unfold mvStep
            rw [if_neg hk2]
          · unfold mvStep
            rw [if_neg hk2]
            rfl
      · rintro r' m' ⟨rfl, o5, o7, o8, o9, o10, o11, rfl⟩
        rw [List.length_map, List.take_length]
        obtain ⟨b1, b2, b3⟩ := mvs_len (k := k) (resting := resting) moves (st := ((cutR s row.length k R).filter (fun b => decide (b ∈ resting)), [], R)) xl
        have fl := List.length_filter_le (fun b => decide (b ∈ resting)) (cutR s row.length k R)
        have tl2 : moves.length * row.length ≤ 100 * 100 := Nat.mul_le_mul hm.few h3
        have few := hm.few
        have eT : moves.foldl (mvStep k resting) ((cutR s row.length k R).filter (fun b => decide (b ∈ resting)), [], R) = raceSt s row.length resting moves R k := rfl
        rw [eT] at b1 b2 b3 ⊢
        have eS : raceBy s row.length resting moves (R, sheets) k = ((raceSt s row.length resting moves R k).2.2, sheets ++ [sheetOf (raceSt s row.length resting moves R k)]) := rfl
        rw [eS]
        have hform : ∀ e ∈ (raceSt s row.length resting moves R k).1.map (fun b => [sDrop, b]) ++ (raceSt s row.length resting moves R k).2.1, e ≠ [] := by
          intro e he
          rcases List.mem_append.mp he with he | he
          · obtain ⟨b, _, rfl⟩ := List.mem_map.mp he
            exact fun h => nomatch h
          · have key : ∀ (mvs : List Mv) (st : DSt), (∀ e ∈ st.2.1, e ≠ []) → ∀ e ∈ (mvs.foldl (mvStep k resting) st).2.1, e ≠ [] := by
              intro mvs
              induction mvs with
              | nil => exact fun st h => h
              | cons mv mvs ih =>
                intro st h
                refine ih _ fun e he => ?_
                unfold mvStep at he
                split at he
                · rcases List.mem_append.mp he with he | he
                  · exact h e he
                  · have := List.mem_singleton.mp he
                    rw [this]; exact fun h => nomatch h
                · exact h e he
            exact key moves _ (fun e h => by simp at h) e he
        generalize hT : raceSt s row.length resting moves R k = T at b1 b2 b3 hform
        obtain ⟨D1, S1, R1⟩ := T
        dsimp only at b1 b2 b3 hform ⊢
        refine s_app (a := a) (ds := sheets.map encS) (d := encS (sheetOf (D1, S1, R1))) (by walk_at "ev") (by rw [mu_ne (Ne.symm ne13), mu_ne (Ne.symm ne12), mu_same]) (ev_cbN (en_cbN (o := .lst ((D1.map (fun b => [sDrop, b]) ++ S1).map encT)) (EvN.is (en_opN1 (en_lc (xs := D1) (enc := Dt.str) (ei_list (a := a2) (by walk_at "ev") (by rw [mu_ne (Ne.symm ne23), mu_same])) (fun m' l => l _ _ (by rw [mu_ne (Ne.symm ne23), mu_same])) (fun _ => true) (fun b => encT [sDrop, b]) (fun b hb => ⟨_, _, by decide, ga_name, et_yes, fun _ => ev_tup (ea_cons (by walk_at "ev") (ea_cons (by walk_at "ev") ea_nil))⟩) (by omega)) (y := .ref a3) (by walk_at "ev") fun b nb => op_catL mu_same (by rw [mu_ne (fun e => by rw [← e, mu_same] at nb; cases nb), mu_same]) (by
          rw [List.length_map, List.length_map]
          have := List.length_filter_le (fun _ : Str => true) D1
          have z1 : ([] : Sheet).length = 0 := rfl
          omega)) ?_) fun b nb => ca_sortE mu_same hform) fun b nb => ca_tupL mu_same) (by simp; omega) (Wk.of ⟨?_, _, _, _, _, _, _, _, _, _, _, _, rfl⟩)
        · rw [filter_tt, List.map_append, List.map_map]
          rfl
        · intro c o e
          by_cases hc : c = a
          · subst hc
            rw [mu_same] at e ⊢
            rw [List.map_append] at e
            exact e
          · rw [mu_ne hc] at e ⊢
            have nm : m c = some o := e
            have c2 : c ≠ a2 := fun z => by rw [z, MLe.free (MLe.new na) n2] at nm; cases nm
            have c3 : c ≠ a3 := fun z => by
              have : m a3 = none := by rw [mu_ne ne23, mu_ne ne13] at n3; exact n3
              rw [z, this] at nm; cases nm
            rw [mu_ne c3, mu_ne c2, mu_ne hc]
            exact nm
    · rintro r' m' ⟨hle, o1, o2, o3, o4, o5, o6, o7, o8, o9, o10, o11, rfl⟩
      have : ((List.range (nRaces s row.length)).reverse.map fun n => Dt.int ((n : Nat) : Int)).length = (downR s row.length).length := by simp [downR]
      rw [this, List.take_length] at hle ⊢
      refine s_ret (ev_tup (ea_cons (Ev.mono (ev_tupRev (a := a) (by walk_at "ev") mu_same) hle) (ea_cons (by walk_at "ev") ea_nil))) (fin ((MLe.new na).trans hle) ?_)
      rw [← List.map_reverse]
      rfl⟩
end
end TB
set_option Elab.async false
set_option linter.all false
set_option autoImplicit false
set_option maxRecDepth 100000
set_option maxHeartbeats 4000000
/-! days_by, further_on, head_thing, heads_of. -/
namespace TB
open PySem PySem.Spec PyProof.Rows L2 RT
local macro_rules | `(tactic| walk_at "ev1") => `(tactic| first
  | ((with_reducible apply ev_var); rfl)
  | with_reducible exact ev_ci
  | with_reducible exact ev_cs
  | with_reducible exact ev_cb
  | with_reducible exact ev_cn
  | with_reducible apply ev_op
  | with_reducible apply ev_tup
  | with_reducible apply ev_isN
  | with_reducible apply ev_notN
  | with_reducible apply ev_notV
  | with_reducible exact op_I0i
  | with_reducible exact op_I0b
  | with_reducible exact op_eqS
  | with_reducible exact op_eqI
  | with_reducible exact op_neS
  | with_reducible exact op_neI
  | with_reducible exact op_isB
  | with_reducible exact op_inTS
  | with_reducible exact op_niTS
  | with_reducible exact op_inTI
  | with_reducible exact op_niTI
  | with_reducible apply op_ixT
  | with_reducible apply op_catT
  | with_reducible exact ea_nil
  | ((with_reducible show List.length _ ≤ 100000); first | decide | (simp <;> omega))
  | with_reducible apply ea_cons
  | with_reducible apply et_test
  | with_reducible apply et_B
  | with_reducible exact et_yes
  | with_reducible apply et_not
  | with_reducible exact ca_lenT
  | with_reducible exact ca_max
  | with_reducible exact ca_min
  | with_reducible exact eo_none
  | with_reducible apply eo_some
  | with_reducible apply ev_slT)
local macro_rules | `(tactic| walk_at "ev") => `(tactic| repeat' walk_at "ev1")
local macro_rules | `(tactic| walk_at "ev2") => `(tactic| repeat' first
  | walk_at "ev1"
  | (with_reducible apply op_mulN <;> omega)
  | (with_reducible apply op_divN <;> omega)
  | with_reducible apply ev_cbA
  | with_reducible apply ev_chain
  | with_reducible apply ev_if
  | with_reducible apply et_and
  | with_reducible apply et_or
  | with_reducible apply ev_andV
  | with_reducible apply ev_orV)

section
variable {P : Program} {w : World} {K : PySem.W.Frag} {mg : Str → Option Value} {base : Heap}
abbrev Ways := List (List Mv)
abbrev encWays (ws : Ways) : Dt := .tup (ws.map encMs)
def daysStep (s n : Nat) (resting : List Str) (x : List Str × List (List Sheet)) (ms : List Mv) : List Str × List (List Sheet) := ((dayBy s n resting ms x.1).1, x.2 ++ [(dayBy s n resting ms x.1).2.reverse])
def daysBy (s n : Nat) (resting : List Str) (ws : Ways) (row : List Str) : List Str × List (List Sheet) := ws.foldl (daysStep s n resting) (row, [])
theorem dayBy_len {s n : Nat} {resting : List Str} {ms : List Mv} {row : List Str} (h : row.length = n) : (dayBy s n resting ms row).1.length = n := (races_len _ h).1
theorem days_len {s n : Nat} {resting : List Str} : ∀ (ws : Ways) {x : List Str × List (List Sheet)}, x.1.length = n → (ws.foldl (daysStep s n resting) x).1.length = n ∧ (ws.foldl (daysStep s n resting) x).2.length = x.2.length + ws.length
  | [], _, h => ⟨h, by simp⟩
  | ms :: ws, x, h => by
    obtain ⟨a, b⟩ := days_len ws (x := daysStep s n resting x ms) (dayBy_len h)
    refine ⟨a, ?_⟩
    rw [List.foldl_cons, b, List.length_cons]
    show (x.2 ++ _).length + _ = _
    rw [List.length_append]
    simp
    omega
abbrev spDaysBy : Sp := spV (fun i : Nat × Nat × List Str × List Str × Ways => [encM i.1 i.2.1, encT i.2.2.1, encT i.2.2.2.1, encWays i.2.2.2.2]) (fun i => 0 < i.1 ∧ i.1 < 1000 ∧ 0 < i.2.2.1.length ∧ i.2.2.1.length ≤ 100 ∧ (∀ ms ∈ i.2.2.2.2, MvOk i.2.2.1.length ms) ∧ i.2.2.2.2.length ≤ 1000) fun i => encDs (daysBy i.1 i.2.2.1.length i.2.2.2.1 i.2.2.2.2 i.2.2.1).2
theorem fn_days_by (A : At K mg "days_by" s_days_by ["meeting", "row", "resting", "ways"]) (c_day_by : Fn P w K mg base 2 "day_by" spDayBy) (Z : Nm mg) : Fn P w K mg base 3 "days_by" spDaysBy :=
  fn_at A sc_days_by (fun _ => rfl) fun f cdv A outer s H E hr => ⟨_, (pss_cons (ps_set (i := 4) sc_days_by.nd rfl (Or.inl rfl) (pe_lst pa_nil))
      (pss_cons (ps_for PassesOwn.never rfl (pi_tup (pv 3)) (pg_name (i := 5) sc_days_by.nd rfl (Or.inl rfl) (Or.inl rfl)) (pss_cons (ps_asg (pe_fn c_day_by hr (by decide) (by rfl) (pa_cons (pv 0) (pa_cons (pv 1) (pa_cons (pv 2) (pa_cons (pv 5) pa_nil))))) (k_pgtup K rfl rfl (n := 2) (pgs_cons (pg_name (i := 6) sc_days_by.nd rfl (Or.inl rfl) (Or.inl rfl)) (pgs_cons (pg_name (i := 1) sc_days_by.nd rfl (Or.inl rfl) (Or.inl rfl)) pgs_nil))))
      (pss_one (ps_expr (pe_bm PySem.F.plainAttrs_list PySem.F.slot_list_append PySem.F.type_list_append mt_append (pv 4) (pa_cons (pv 6) pa_nil))))))
      (pss_one (ps_ret (pe_callTy (k_tupF K rfl) (by rfl) Z.m_tuple b_tuple (pa_cons (pv 4) pa_nil)))))), by
    rintro ⟨s, r, row, resting, ws⟩ m ⟨h0, h1, h2, h3, hm, hl⟩
    dsimp only at h0 h1 h2 h3 hm hl ⊢
    refine q_asgN (en_lst ea_nil) fun a na => ?_
    refine q_for (ei_tup (by walk_at "ev")) (fun i r' m' => m' = mu m a (.lst (((ws.take i).foldl (daysStep s row.length resting) (row, [])).2.map encD)) ∧ ∃ o1 o2, r' = [some (encM s r), some (encT ((ws.take i).foldl (daysStep s row.length resting) (row, [])).1), some (encT resting), some (encWays ws), some (.ref a), o1, o2]) ⟨rfl, _, _, rfl⟩ (fun _ _ _ _ => trivial) ?_ ?_
    · rintro i d r' m' hd ⟨rfl, o1, o2, rfl⟩
      obtain ⟨ms, hms, rfl⟩ := getEnc hd
      obtain ⟨xl, xl2⟩ := days_len (s := s) (resting := resting) (ws.take i) (x := (row, [])) rfl
      have et : (ws.take (i + 1)).foldl (daysStep s row.length resting) (row, []) = daysStep s row.length resting ((ws.take i).foldl (daysStep s row.length resting) (row, [])) ms := foldl_take hms
      rw [et]
      have tl : (ws.take i).length ≤ 1000 := by rw [List.length_take]; omega
      have z0 : ([] : List (List Sheet)).length = 0 := rfl
      generalize hX : (ws.take i).foldl (daysStep s row.length resting) (row, []) = X at xl xl2
      obtain ⟨R, days⟩ := X
      dsimp only at xl xl2
      refine ⟨_, _, ga_name, ?_⟩
      refine q_asgG (ev_call (s, r, R, resting, ms) (by walk_at "ev") rfl ⟨h0, h1, by dsimp only; omega, by dsimp only; omega, by dsimp only; rw [xl]; exact hm ms (memGet hms)⟩) (ga_tup rfl (gas_cons ga_name (gas_cons ga_name gas_nil))) ?_
      dsimp only
      rw [xl]
      refine s_app (a := a) (by walk_at "ev") mu_same (by walk_at "ev") (by rw [List.length_map]; omega) (Wk.of ⟨?_, some (encMs ms), some (encD (dayBy s row.length resting ms R).2.reverse), rfl⟩)
      rw [mu_mu]
      unfold daysStep
      rw [List.map_append]
      rfl
    · rintro r' m' ⟨rfl, o1, o2, rfl⟩
      rw [List.length_map, List.take_length]
      exact s_ret (ev_cbA (ea_cons (by walk_at "ev") ea_nil) (ca_tupL mu_same)) (fin (MLe.new na) rfl)⟩
/-! ### places further on -/
abbrev Here := List (Nat × Ways)
def foGoal (tfp : Found) (ways : Ways) (found : Here) (goal : Nat) : Here := if goal ∉ found.map (·.1) then found ++ [(goal, ways ++ [(valD tfp goal).getD []])] else found
def foPlace (tf : Nat → Found) (here : Here) (found : Here) (place : Nat) : Here := (keysF (tf place)).foldl (foGoal (tf place) ((valD here place).getD [])) found
def foD (tf : Nat → Found) (here : Here) : Here := (keysF here).foldl (foPlace tf here) []
structure HOk (n B : Nat) (here : Here) : Prop where
  nd : (here.map (·.1)).Nodup
  lt : ∀ q ∈ here.map (·.1), q < n
  ws : ∀ e ∈ here, e.2.length ≤ B
theorem HOk.len {n B : Nat} {here : Here} (h : HOk n B here) : here.length ≤ n := by
  have := nodup_lt_length h.nd h.lt
  simpa using this
theorem hok_goal {n B : Nat} {tfp : Found} {ways : Ways} {found : Here} {goal : Nat} (h : HOk n B found) (hg : goal < n) (hw : ways.length + 1 ≤ B) : HOk n B (foGoal tfp ways found goal) := by
  unfold foGoal
  split
  · rename_i hc
    refine ⟨?_, fun q hq => ?_, fun e he => ?_⟩
    · rw [List.map_append]
      refine List.nodup_append.mpr ⟨h.nd, by simp, fun a ha b hb => ?_⟩
      have : b = goal := by simpa using hb
      rw [this]
      exact fun e => hc (e ▸ ha)
    · rw [List.map_append] at hq
      rcases List.mem_append.mp hq with hq | hq
      · exact h.lt q hq
      · have : q = goal := by simpa using hq
        rw [this]; exact hg
    · rcases List.mem_append.mp he with he | he
      · exact h.ws e he
      · have := List.mem_singleton.mp he
        rw [this]
        simpa using hw
  · exact h
theorem hok_goals {n B : Nat} {tfp : Found} {ways : Ways} (hw : ways.length + 1 ≤ B) : ∀ (gs : List Nat) {found : Here}, HOk n B found → (∀ g ∈ gs, g < n) → HOk n B (gs.foldl (foGoal tfp ways) found)
  | [], _, h, _ => h
  | g :: gs, _, h, hg => hok_goals hw gs (hok_goal h (hg g List.mem_cons_self) hw) fun x hx => hg x (List.mem_cons_of_mem _ hx)
theorem keysF_mem {α : Type} {l : List (Nat × α)} {q : Nat} : q ∈ keysF l ↔ q ∈ l.map (·.1) := (sortN_perm _).mem_iff
theorem val_ways {n B : Nat} {here : Here} (h : HOk n B here) {p : Nat} (hp : p ∈ here.map (·.1)) : ((valD here p).getD []).length ≤ B ∧ valD here p = some ((valD here p).getD []) := by
  obtain ⟨v, h1, h2⟩ := valD_of_key hp
  rw [h1]
  exact ⟨h.ws _ h2, rfl⟩
theorem hok_places {n B : Nat} {tf : Nat → Found} {here : Here} (hh : HOk n B here) (ht : ∀ p, p < n → FOk n (tf p)) : ∀ (ps : List Nat) {found : Here}, (∀ p ∈ ps, p ∈ here.map (·.1)) → HOk n (B + 1) found → HOk n (B + 1) (ps.foldl (foPlace tf here) found)
  | [], _, _, h => h
  | p :: ps, found, hp, h => by
    refine hok_places hh ht ps (found := foPlace tf here found p) (fun x hx => hp x (List.mem_cons_of_mem _ hx)) ?_
    have hk := hp p List.mem_cons_self
    exact hok_goals (by have := (val_ways hh hk).1; omega) _ h fun g hg => (ht p (hh.lt p hk)).lt g (keysF_mem.mp hg)
theorem hok_nil {n B : Nat} : HOk n B ([] : Here) := ⟨by simp, fun _ h => by simp at h, fun _ h => nomatch h⟩
theorem hok_fo {n B : Nat} {tf : Nat → Found} {here : Here} (hh : HOk n B here) (ht : ∀ p, p < n → FOk n (tf p)) : HOk n (B + 1) (foD tf here) := hok_places hh ht _ (fun p hp => keysF_mem.mp hp) hok_nil
/-- the table of what each place leads to: a dict of dicts -/
structure TbAt (m : Mp) (T : Addr) (n : Nat) (tf : Nat → Found) : Prop where
  ex : ∃ tb : List (Nat × Addr), m T = some (.dic (encK Dt.ref tb)) ∧ ∀ p, p < n → ∃ a, valD tb p = some a ∧ m a = some (.dic (encF (tf p)))
theorem TbAt.mono {m m' : Mp} {T : Addr} {n : Nat} {tf : Nat → Found} (h : TbAt m T n tf) (l : MLe m m') : TbAt m' T n tf := by
  obtain ⟨tb, h1, h2⟩ := h.ex
  exact ⟨tb, l _ _ h1, fun p hp => by obtain ⟨a, a1, a2⟩ := h2 p hp; exact ⟨a, a1, l _ _ a2⟩⟩
abbrev spFurther : Sp := spN (fun i : Addr × Addr × Nat × Nat × (Nat → Found) × Here => [.ref i.1, .ref i.2.1]) (fun i m => TbAt m i.1 i.2.2.1 i.2.2.2.2.1 ∧ m i.2.1 = some (.dic (encK encWays i.2.2.2.2.2)) ∧ HOk i.2.2.1 i.2.2.2.1 i.2.2.2.2.2 ∧ (∀ p, p < i.2.2.1 → FOk i.2.2.1 (i.2.2.2.2.1 p)) ∧ i.2.2.1 < 60 ∧ i.2.2.2.1 ≤ 1000) fun i => .dic (encK encWays (foD i.2.2.2.2.1 i.2.2.2.2.2))
theorem fn_further_on (A : At K mg "further_on" s_further_on ["table", "here"]) (Z : Nm mg) : Fn P w K mg base 1 "further_on" spFurther :=
  fn_at A sc_further_on (fun _ => rfl) fun f cdv A outer s H E hr => ⟨_, by
    have hu := hu_of hr
    exact (pss_cons (ps_set (i := 2) sc_further_on.nd rfl (Or.inl rfl) pe_dnewK)
      (pss_cons (ps_for PassesOwn.never rfl (pi_list (pe_callB (cr_sortKeys rfl) (by rfl) Z.m_sorted b_sorted (pa_cons (pv 1) pa_nil))) (pg_name (i := 3) sc_further_on.nd rfl (Or.inl rfl) (Or.inl rfl)) (pss_one (ps_for PassesOwn.never rfl (pi_list (pe_callB (cr_sortKeys rfl) (by rfl) Z.m_sorted b_sorted (pa_cons (pe_dget hu (pv 0) (pv 3) (fun _ _ => rfl)) pa_nil))) (pg_name (i := 4) sc_further_on.nd rfl (Or.inl rfl) (Or.inl rfl)) (pss_one (ps_if (pt_cmp (pc_dnotin hu (pv 4) (pv 2))) (pss_one (ps_dput hu (pv 2) (pv 4) (pe_op (k_catF K rfl) (pe_dget hu (pv 1) (pv 3) (fun _ _ => rfl)) (pe_tupF (pa_cons (pe_dget hu (pe_dget hu (pv 0) (pv 3) (fun _ _ => rfl)) (pv 4) (fun _ _ => rfl)) pa_nil))) rfl)) pss_nil)))))
      (pss_one (ps_ret (pv 2))))), by
    rintro ⟨T, Hh, n, B, tf, here⟩ m ⟨ht, hh, ok, tok, hn, hB⟩
    dsimp only at ht hh ok tok hn hB ⊢
    obtain ⟨tb, t1, t2⟩ := ht.ex
    have hl := ok.len
    refine q_asgN en_dict0 fun a na => ?_
    have nT : T ≠ a := fun e => by rw [e, na] at t1; cases t1
    have nH : Hh ≠ a := fun e => by rw [e, na] at hh; cases hh
    refine q_for (ei_listN (en_cbA (ea_cons (by walk_at "ev") ea_nil) (ca_sortKeys (f := encWays) (l := here) (a := Hh) (by rw [mu_ne nH]; exact hh) (by omega)))) (fun i r' m' => m' = mu m a (.dic (encK encWays (((keysF here).take i).foldl (foPlace tf here) []))) ∧ ∃ o1 o2, r' = [some (.ref T), some (.ref Hh), some (.ref a), o1, o2]) ⟨rfl, _, _, rfl⟩ (fun _ _ _ _ => trivial) ?_ ?_
    · rintro i d r' m' hd ⟨rfl, o1, o2, rfl⟩
      obtain ⟨p, hp, rfl⟩ := getEnc hd
      have hp : (keysF here)[i]? = some p := hp
      have hk : p ∈ here.map (·.1) := keysF_mem.mp (memGet hp)
      have plt := ok.lt p hk
      obtain ⟨w1, w2⟩ := val_ways ok hk
      obtain ⟨b, b1, b2⟩ := t2 p plt
      have nb : b ≠ a := fun e => by rw [e, na] at b2; cases b2
      have fok := tok p plt
      have fl := fok.len
      have et : ((keysF here).take (i + 1)).foldl (foPlace tf here) [] = foPlace tf here (((keysF here).take i).foldl (foPlace tf here) []) p := foldl_take hp
      have hok := hok_places (tf := tf) ok tok ((keysF here).take i) (found := []) (fun x hx => keysF_mem.mp (List.mem_of_mem_take hx)) hok_nil
      rw [et]
      generalize hF : ((keysF here).take i).foldl (foPlace tf here) [] = F at hok
      have vT : valD (encK Dt.ref tb) (Sum.inl ((p : Nat) : Int)) = some (.ref b) := by rw [valD_encK, b1]; rfl
      refine ⟨_, _, ga_name, ?_⟩
      refine s_for (ei_listN (en_cbA (ea_cons (ev_dget (a := T) (k := Sum.inl ((p : Nat) : Int)) (by walk_at "ev") (by walk_at "ev") (by rw [mu_ne nT]; exact t1) vT) ea_nil) (ca_sortKeys (f := encMs) (l := tf p) (a := b) (by rw [mu_ne nb]; exact b2) (by omega)))) (fun j r' m' => m' = mu m a (.dic (encK encWays (((keysF (tf p)).take j).foldl (foGoal (tf p) ((valD here p).getD [])) F))) ∧ ∃ o2, r' = [some (.ref T), some (.ref Hh), some (.ref a), some (.int (p : Nat)), o2]) ⟨rfl, _, rfl⟩ (fun _ _ _ _ => trivial) ?_ ?_
      · rintro j d r' m' hd ⟨rfl, o2, rfl⟩
        obtain ⟨g, hg, rfl⟩ := getEnc hd
        have hg : (keysF (tf p))[j]? = some g := hg
        have gk : g ∈ (tf p).map (·.1) := keysF_mem.mp (memGet hg)
        have glt := fok.lt g gk
        obtain ⟨v1, v2⟩ := here_moves fok gk
        have et2 : ((keysF (tf p)).take (j + 1)).foldl (foGoal (tf p) ((valD here p).getD [])) F = foGoal (tf p) ((valD here p).getD []) (((keysF (tf p)).take j).foldl (foGoal (tf p) ((valD here p).getD [])) F) g := foldl_take hg
        have hok2 := hok_goals (tfp := tf p) (ways := (valD here p).getD []) (B := B + 1) (by omega) ((keysF (tf p)).take j) hok fun x hx => fok.lt x (keysF_mem.mp (List.mem_of_mem_take hx))
        rw [et2]
        generalize hG : ((keysF (tf p)).take j).foldl (foGoal (tf p) ((valD here p).getD [])) F = G at hok2
        have gl := hok2.len
        have eG : ∀ q : Nat, (valD (encK encWays G) (Sum.inl ((q : Nat) : Int))).isSome = decide (q ∈ G.map (·.1)) := fun q => by rw [valD_encK, Option.isSome_map, valD_isSome]
        refine ⟨_, _, ga_name, ?_⟩
        by_cases hc : g ∉ G.map (·.1)
        · refine s_when (EvT.is (b' := true) (et_B (ev_dni (a := a) (k := Sum.inl ((g : Nat) : Int)) (by walk_at "ev") (by walk_at "ev") mu_same)) (by rw [eG]; simpa using hc)) (fun _ => ?_) fun h => nomatch h
          have vH : valD (encK encWays here) (Sum.inl ((p : Nat) : Int)) = some (encWays ((valD here p).getD [])) := by rw [valD_encK, w2]; rfl
          refine s_dput (a := a) (k := Sum.inl ((g : Nat) : Int)) (d := encWays ((valD here p).getD [] ++ [(valD (tf p) g).getD []])) (Ev.is (ev_op (ev_dget (a := Hh) (k := Sum.inl ((p : Nat) : Int)) (by walk_at "ev") (by walk_at "ev") (by rw [mu_ne nH]; exact hh) vH) (ev_tup (ea_cons (ev_dget (a := b) (k := Sum.inl ((g : Nat) : Int)) (ev_dget (a := T) (k := Sum.inl ((p : Nat) : Int)) (by walk_at "ev") (by walk_at "ev") (by rw [mu_ne nT]; exact t1) vT) (by walk_at "ev") (by rw [mu_ne nb]; exact b2) (encF_val v2)) ea_nil)) (op_catT (sz_of ?_))) ?_) (by walk_at "ev") (by walk_at "ev") mu_same (by simp; omega) (Wk.of ⟨?_, _, rfl⟩)
          · rw [List.length_map, List.length_singleton]; omega
          · simp [encWays]
          · rw [mu_mu, putD_encK, putD_new hc]
            unfold foGoal
            rw [if_pos hc]
        · refine s_when (EvT.is (b' := false) (et_B (ev_dni (a := a) (k := Sum.inl ((g : Nat) : Int)) (by walk_at "ev") (by walk_at "ev") mu_same)) (by rw [eG]; simpa using hc)) (fun h => nomatch h) fun _ => Wk.of ⟨?_, _, rfl⟩
          unfold foGoal
          rw [if_neg hc]
      · rintro r' m' ⟨rfl, o2, rfl⟩
        refine Wk.of ⟨?_, _, _, rfl⟩
        rw [List.length_map, List.take_length]
        rfl
    · rintro r' m' ⟨rfl, o1, o2, rfl⟩
      refine s_ret (by walk_at "ev") (Wk.of ⟨a, na, rfl, ?_⟩)
      rw [List.length_map, List.take_length]
      rfl⟩
/-! ### what a place comes to -/
def hereAt (tf : Nat → Found) (p : Nat) : Nat → Here
  | 0 => [(p, [])]
  | j + 1 => foD tf (hereAt tf p j)
def TfOk (n : Nat) (tf : Nat → Found) : Prop := ∀ p, p < n → FOk n (tf p) ∧ ∀ e ∈ tf p, MvOk n e.2
theorem hereAt_ok {n : Nat} {tf : Nat → Found} {p : Nat} (hp : p < n) (ht : TfOk n tf) : ∀ j, HOk n j (hereAt tf p j)
  | 0 => ⟨by simp [hereAt], fun q hq => by
    have : q = p := by simpa [hereAt] using hq
    rw [this]; exact hp, fun e he => by
    have : e = (p, []) := by simpa [hereAt] using he
    rw [this]; simp⟩
  | j + 1 => hok_fo (hereAt_ok hp ht j) fun q hq => (ht q hq).1
theorem mvok_nil {n : Nat} : MvOk n [] := ⟨fun _ h => by simp at h, by simp⟩
theorem foD_mv {n : Nat} {tf : Nat → Found} {here : Here} {B : Nat} (hh : HOk n B here) (ht : TfOk n tf) (hm : ∀ e ∈ here, ∀ ms ∈ e.2, MvOk n ms) : ∀ e ∈ foD tf here, ∀ ms ∈ e.2, MvOk n ms := by
  have g1 : ∀ (p : Nat) (hp : p < n) (ways : Ways), (∀ ms ∈ ways, MvOk n ms) → ∀ (gs : List Nat) (found : Here), (∀ e ∈ found, ∀ ms ∈ e.2, MvOk n ms) → ∀ e ∈ gs.foldl (foGoal (tf p) ways) found, ∀ ms ∈ e.2, MvOk n ms := by
    intro p hp ways hw gs
    induction gs with
    | nil => exact fun found h => h
    | cons g gs ih =>
      intro found h
      refine ih _ fun e he => ?_
      unfold foGoal at he
      split at he
      · rcases List.mem_append.mp he with he | he
        · exact h e he
        · have := List.mem_singleton.mp he
          rw [this]
          intro ms hms
          rcases List.mem_append.mp hms with hms | hms
          · exact hw ms hms
          · have := List.mem_singleton.mp hms
            rw [this]
            cases hv : valD (tf p) g with
            | none => exact mvok_nil
            | some v => exact (ht p hp).2 _ (valD_mem hv)
      · exact h e he
  have g2 : ∀ (ps : List Nat) (found : Here), (∀ p ∈ ps, p < n) → (∀ e ∈ found, ∀ ms ∈ e.2, MvOk n ms) → ∀ e ∈ ps.foldl (foPlace tf here) found, ∀ ms ∈ e.2, MvOk n ms := by
    intro ps
    induction ps with
    | nil => exact fun found _ h => h
    | cons p ps ih =>
      intro found hp h
      refine ih _ (fun x hx => hp x (List.mem_cons_of_mem _ hx)) ?_
      refine g1 p (hp p List.mem_cons_self) _ ?_ _ _ h
      intro ms hms
      cases hv : valD here p with
      | none => rw [hv] at hms; exact absurd hms (by simp)
      | some v => rw [hv] at hms; exact hm _ (valD_mem hv) ms hms
  exact g2 _ _ (fun p hp => hh.lt p (keysF_mem.mp hp)) fun e he => nomatch he
theorem hereAt_mv {n : Nat} {tf : Nat → Found} {p : Nat} (hp : p < n) (ht : TfOk n tf) : ∀ j, ∀ e ∈ hereAt tf p j, ∀ ms ∈ e.2, MvOk n ms
  | 0 => fun e he ms hms => by
    have : e = (p, []) := by simpa [hereAt] using he
    rw [this] at hms
    exact absurd hms (by simp)
  | j + 1 => foD_mv (hereAt_ok hp ht j) ht (hereAt_mv hp ht j)
def waysTo0 (tf : Nat → Found) (many p : Nat) : Ways := (valD (hereAt tf p many) 0).getD []
def setsOf (tf : Nat → Found) (many p : Nat) : List (List Nat) := (List.range (many + 1)).map fun j => keysF (hereAt tf p j)
def headD (s n : Nat) (resting row : List Str) (tf : Nat → Found) (many p : Nat) : Dt :=
  if 0 ∈ (hereAt tf p many).map (·.1) then .tup [.str ("can" : Str), encDs (daysBy s n resting (waysTo0 tf many p) row).2] else .tup [.str ("cannot" : Str), .tup ((setsOf tf many p).map encN)]
abbrev spHead : Sp := spM (fun i : (Nat × Nat × List Str × List Str) × (Addr × Nat × Nat × (Nat → Found)) => [encM i.1.1 i.1.2.1, encT i.1.2.2.1, encT i.1.2.2.2, .ref i.2.1, .int (i.2.2.1 : Nat), .int (i.2.2.2.1 : Nat)])
  (fun i m => 0 < i.1.1 ∧ i.1.1 < 1000 ∧ i.1.2.2.1.length < 60 ∧ i.2.2.1 ≤ 100 ∧ i.2.2.2.1 < i.1.2.2.1.length ∧ TbAt m i.2.1 i.1.2.2.1.length i.2.2.2.2 ∧ TfOk i.1.2.2.1.length i.2.2.2.2) fun i => headD i.1.1 i.1.2.2.1.length i.1.2.2.2 i.1.2.2.1 i.2.2.2.2 i.2.2.1 i.2.2.2.1
theorem range_snoc {α : Type} (f : Nat → α) (n : Nat) : (List.range (n + 1)).map f = (List.range n).map f ++ [f n] := by rw [List.range_succ, List.map_append]; rfl
theorem fn_head_thing (A : At K mg "head_thing" s_head_thing ["meeting", "row", "resting", "table", "many", "p"]) (c_further_on : Fn P w K mg base 1 "further_on" spFurther) (c_days_by : Fn P w K mg base 3 "days_by" spDaysBy) (Z : Nm mg) : Fn P w K mg base 4 "head_thing" spHead :=
  fn_at A sc_head_thing (fun _ => rfl) fun f cdv A outer s H E hr => ⟨_, by
    have hu := hu_of hr
    exact (pss_cons (ps_set (i := 6) sc_head_thing.nd rfl (Or.inl rfl) (pe_disp (pps_cons (pv 5) (pe_tupF pa_nil) pps_nil) (by rfl) (by rfl) (by simp) (by decide)))
      (pss_cons (ps_set (i := 7) sc_head_thing.nd rfl (Or.inl rfl) (pe_lst (pa_cons (pe_tupF (pa_cons (pv 5) pa_nil)) pa_nil)))
      (pss_cons (ps_for PassesOwn.never rfl (pi_range1 (by rfl) Z.m_range (pa_cons (pv 4) pa_nil)) (pg_name (i := 8) sc_head_thing.nd rfl (Or.inl rfl) (Or.inl rfl)) (pss_cons (ps_set (i := 6) sc_head_thing.nd rfl (Or.inl rfl) (pe_fn c_further_on hr (by decide) (by rfl) (pa_cons (pv 3) (pa_cons (pv 6) pa_nil))))
      (pss_one (ps_expr (pe_bm PySem.F.plainAttrs_list PySem.F.slot_list_append PySem.F.type_list_append mt_append (pv 7) (pa_cons (pe_callTy (k_tupF K rfl) (by rfl) Z.m_tuple b_tuple (pa_cons (pe_callB (cr_sortKeys rfl) (by rfl) Z.m_sorted b_sorted (pa_cons (pv 6) pa_nil)) pa_nil)) pa_nil))))))
      (pss_cons (ps_if (pt_cmp (pc_din hu pe_int (pv 6))) (pss_one (ps_ret (pe_tupF (pa_cons pe_str (pa_cons (pe_fn c_days_by hr (by decide) (by rfl) (pa_cons (pv 0) (pa_cons (pv 1) (pa_cons (pv 2) (pa_cons (pe_dget hu (pv 6) pe_int (fun _ _ => rfl)) pa_nil))))) pa_nil))))) pss_nil)
      (pss_one (ps_ret (pe_tupF (pa_cons pe_str (pa_cons (pe_callTy (k_tupF K rfl) (by rfl) Z.m_tuple b_tuple (pa_cons (pv 7) pa_nil)) pa_nil))))))))), by
    rintro ⟨⟨s, r, row, resting⟩, T, many, p, tf⟩ m ⟨h0, h1, h2, h3, h4, ht, tok⟩
    dsimp only at h0 h1 h2 h3 h4 ht tok ⊢
    refine q_asgN (en_disp1 (k := Sum.inl ((p : Nat) : Int)) (d := encWays []) (by walk_at "ev") (ev_tup (ds := []) ea_nil)) fun a1 n1 => ?_
    refine q_asgN (o := .lst ((setsOf tf 0 p).map encN)) (EvN.is (en_lst (ea_cons (ev_tup (ea_cons (by walk_at "ev") ea_nil)) ea_nil)) ?_) fun a2 n2 => ?_
    · have e : keysF (hereAt tf p 0) = [p] := List.perm_singleton.mp (sortN_perm [p])
      simp [setsOf, e]
    have ne12 : a1 ≠ a2 := fun e => by rw [← e, mu_same] at n2; cases n2
    have n2' : m a2 = none := by rw [mu_ne (Ne.symm ne12)] at n2; exact n2
    refine q_for (ei_rng0 (n := many) (by walk_at "ev") rfl (by omega)) (fun i r' m' => ∃ Hh, m Hh = none ∧ Hh ≠ a2 ∧ MLe (mu (mu m Hh (.dic (encK encWays (hereAt tf p i)))) a2 (.lst ((setsOf tf i p).map encN))) m' ∧ ∃ o, r' = [some (encM s r), some (encT row), some (encT resting), some (.ref T), some (.int (many : Nat)), some (.int (p : Nat)), some (.ref Hh), some (.ref a2), o]) ⟨a1, n1, ne12, MLe.refl _, _, rfl⟩ (fun _ _ _ _ => trivial) ?_ ?_
    · rintro i d r' m' hd ⟨Hh, nH, neH, hle, o, rfl⟩
      obtain ⟨j, hj, rfl⟩ := getEnc hd
      have ok := hereAt_ok h4 tok i
      have ilt : i < many := by
        have := (List.getElem?_eq_some_iff.mp hj).1
        simpa using this
      refine ⟨_, _, ga_name, ?_⟩
      refine St.less ?_ hle
      have lm : MLe m (mu (mu m Hh (.dic (encK encWays (hereAt tf p i)))) a2 (.lst ((setsOf tf i p).map encN))) := (MLe.new nH).mu n2'
      refine q_asgN (en_call (T, Hh, row.length, i, tf, hereAt tf p i) (by walk_at "ev") rfl ⟨ht.mono lm, by dsimp only; rw [mu_ne neH, mu_same], ok, fun q hq => (tok q hq).1, h2, by dsimp only; omega⟩) fun b nb => ?_
      have nb2 : b ≠ a2 := fun e => by rw [e, mu_same] at nb; cases nb
      have nbH : b ≠ Hh := fun e => by rw [e, mu_ne neH, mu_same] at nb; cases nb
      have nbm : m b = none := by rw [mu_ne nb2, mu_ne nbH] at nb; exact nb
      have okn := hereAt_ok h4 tok (i + 1)
      have hl := okn.len
      refine s_app (a := a2) (ds := (setsOf tf i p).map encN) (d := encN (keysF (hereAt tf p (i + 1)))) (by walk_at "ev") (by rw [mu_ne (Ne.symm nb2), mu_same]) (ev_cbN (en_cbA (ea_cons (by walk_at "ev") ea_nil) (ca_sortKeys (f := encWays) (l := hereAt tf p (i + 1)) (a := b) mu_same (by omega))) fun c nc => ca_tupL mu_same) (by simp [setsOf]; omega) (Wk.of ⟨b, nbm, nb2, ?_, some (.int (j : Nat)), rfl⟩)
      have es : (setsOf tf (i + 1) p).map encN = (setsOf tf i p).map encN ++ [encN (keysF (hereAt tf p (i + 1)))] := by
        unfold setsOf
        rw [range_snoc _ (i + 1), List.map_append]
        rfl
      rw [es]
      intro c u e
      by_cases hc : c = a2
      · subst hc
        rw [mu_same] at e ⊢
        exact e
      · rw [mu_ne hc] at e ⊢
        by_cases hc2 : c = b
        · subst hc2
          rw [mu_same] at e ⊢
          exact e
        · rw [mu_ne hc2] at e ⊢
          rw [mu_ne hc, mu_ne (fun z => by rw [z, nH] at e; cases e)]
          exact e
    · rintro r' m' ⟨Hh, nH, neH, hle, o, rfl⟩
      rw [List.length_map, List.length_range] at hle
      have ok := hereAt_ok h4 tok many
      have hmv := hereAt_mv h4 tok many
      have lm : MLe m (mu (mu m Hh (.dic (encK encWays (hereAt tf p many)))) a2 (.lst ((setsOf tf many p).map encN))) := (MLe.new nH).mu n2'
      refine St.less ?_ hle
      have gH : mu (mu m Hh (.dic (encK encWays (hereAt tf p many)))) a2 (.lst ((setsOf tf many p).map encN)) Hh = some (.dic (encK encWays (hereAt tf p many))) := by rw [mu_ne neH, mu_same]
      have eG : (valD (encK encWays (hereAt tf p many)) (Sum.inl (0 : Int))).isSome = decide (0 ∈ (hereAt tf p many).map (·.1)) := by
        have := valD_encK (f := encWays) (k := 0) (hereAt tf p many)
        rw [show (Sum.inl (0 : Int) : Key) = Sum.inl ((0 : Nat) : Int) from rfl, this, Option.isSome_map, valD_isSome]
      by_cases hc : 0 ∈ (hereAt tf p many).map (·.1)
      · obtain ⟨w1, w2⟩ := val_ways ok hc
        have vH : valD (encK encWays (hereAt tf p many)) (Sum.inl (0 : Int)) = some (encWays (waysTo0 tf many p)) := by
          have := valD_encK (f := encWays) (k := 0) (hereAt tf p many)
          rw [show (Sum.inl (0 : Int) : Key) = Sum.inl ((0 : Nat) : Int) from rfl, this, w2]
          rfl
        refine q_when (EvT.is (b' := true) (et_B (ev_din (a := Hh) (k := Sum.inl (0 : Int)) ev_ci (by walk_at "ev") gH)) (by rw [eG]; simpa using hc)) (fun _ => ?_) fun h => nomatch h
        refine s_ret (ev_tup (ea_cons (by walk_at "ev") (ea_cons (ev_call (s, r, row, resting, waysTo0 tf many p) (ea_cons (by walk_at "ev") (ea_cons (by walk_at "ev") (ea_cons (by walk_at "ev") (ea_cons (ev_dget (a := Hh) (k := Sum.inl (0 : Int)) (by walk_at "ev") ev_ci gH vH) ea_nil)))) rfl ⟨h0, h1, by dsimp only; omega, by dsimp only; omega, ?_, ?_⟩) ea_nil))) (fin lm ?_)
        · intro ms hms
          have : (0, waysTo0 tf many p) ∈ hereAt tf p many := valD_mem w2
          exact hmv _ this ms hms
        · show (waysTo0 tf many p).length ≤ 1000
          unfold waysTo0
          omega
        · show _ = headD _ _ _ _ _ _ _
          unfold headD
          rw [if_pos hc]
      · refine q_when (EvT.is (b' := false) (et_B (ev_din (a := Hh) (k := Sum.inl (0 : Int)) ev_ci (by walk_at "ev") gH)) (by rw [eG]; simpa using hc)) (fun h => nomatch h) fun _ => ?_
        refine s_ret (ev_tup (ea_cons (by walk_at "ev") (ea_cons (ev_cbA (ea_cons (by walk_at "ev") ea_nil) (ca_tupL (a := a2) mu_same)) ea_nil))) (fin lm ?_)
        show _ = headD _ _ _ _ _ _ _
        unfold headD
        rw [if_neg hc]⟩
/-! ### all heads -/
def placesOf (row resting : List Str) : List Nat := (row.zipIdx.filter fun q => decide (q.1 ∈ resting)).map (·.2)
def tfOf (s r : Nat) (row resting : List Str) (p : Nat) : Found := mfD s r row.length (placesOf row resting) p
theorem goals_mv {s r n k here : Nat} {places : List Nat} {moves : List Mv} (hn : 0 < n) (hh : here < n) (hm : ∀ mv ∈ moves, mv.2.1 < n ∧ mv.2.2 < n) : ∀ (gs : List Nat) {found : Found}, (∀ g ∈ gs, g < n) → (∀ e ∈ found, ∀ mv ∈ e.2, mv.2.1 < n ∧ mv.2.2 < n) → ∀ e ∈ gs.foldl (goalStep places k here moves) found, ∀ mv ∈ e.2, mv.2.1 < n ∧ mv.2.2 < n
  | [], _, _, h => h
  | g :: gs, found, hg, h => by
    refine goals_mv hn hh hm (s := s) (r := r) gs (found := goalStep places k here moves found g) (fun x hx => hg x (List.mem_cons_of_mem _ hx)) fun e he => ?_
    unfold goalStep at he
    split at he
    · rcases List.mem_append.mp he with he | he
      · exact h e he
      · have := List.mem_singleton.mp he
        rw [this]
        intro mv hmv
        rcases List.mem_append.mp hmv with hmv | hmv
        · exact hm mv hmv
        · have := List.mem_singleton.mp hmv
          rw [this]
          exact ⟨hh, hg g List.mem_cons_self⟩
    · exact h e he
theorem heres_mv {s r n k : Nat} {places : List Nat} (hn : 0 < n) : ∀ (hs : List Nat) {found : Found}, (∀ h ∈ hs, h < n) → (∀ e ∈ found, ∀ mv ∈ e.2, mv.2.1 < n ∧ mv.2.2 < n) → ∀ e ∈ hs.foldl (hereStep s r n places k) found, ∀ mv ∈ e.2, mv.2.1 < n ∧ mv.2.2 < n
  | [], _, _, h => h
  | x :: hs, found, hx, h => by
    refine heres_mv hn hs (found := hereStep s r n places k found x) (fun y hy => hx y (List.mem_cons_of_mem _ hy)) ?_
    refine goals_mv (s := s) (r := r) hn (hx x List.mem_cons_self) (fun mv hmv => ?_) _ (goals_lt hn) h
    cases hv : valD found x with
    | none => rw [hv] at hmv; exact absurd hmv (by simp)
    | some v => rw [hv] at hmv; exact h _ (valD_mem hv) mv hmv
theorem races_mv {s r n : Nat} {places : List Nat} (hn : 0 < n) : ∀ (ks : List Nat) {found : Found}, FOk n found → (∀ e ∈ found, ∀ mv ∈ e.2, mv.2.1 < n ∧ mv.2.2 < n) → ∀ e ∈ ks.foldl (raceStep s r n places) found, ∀ mv ∈ e.2, mv.2.1 < n ∧ mv.2.2 < n
  | [], _, _, h => h
  | k :: ks, found, ok, h => races_mv hn ks (fok_race ok hn) (heres_mv hn _ (fun x hx => ok.lt x (heres_mem hx)) h)
theorem tf_ok {s r : Nat} {row resting : List Str} (hl : row.length ≤ 100) : TfOk row.length (tfOf s r row resting) := fun p hp => by
  have ok := fok_mf (s := s) (r := r) (places := placesOf row resting) hp
  refine ⟨ok, fun e he => ⟨?_, ?_⟩⟩
  · revert e
    unfold tfOf mfD
    split
    · intro e he mv hmv
      have : e = (p, []) := by simpa using he
      rw [this] at hmv
      exact absurd hmv (by simp)
    · exact races_mv (by omega) _ (fok_one hp) fun e he mv hmv => by
        have : e = (p, []) := by simpa using he
        rw [this] at hmv
        exact absurd hmv (by simp)
  · have h1 := ok.ms e he
    have h2 := ok.len
    omega
abbrev spHeads : Sp := spV (fun i : Nat × Nat × List Str × List Str × Nat => [encM i.1 i.2.1, encT i.2.2.1, encT i.2.2.2.1, .int (i.2.2.2.2 : Nat)]) (fun i => 0 < i.1 ∧ i.1 < 1000 ∧ i.2.1 < 1000 ∧ i.2.2.1.length < 60 ∧ i.2.2.2.2 ≤ 100)
  fun i => .tup (i.2.2.1.zipIdx.map fun q => .tup [.str q.1, headD i.1 i.2.2.1.length i.2.2.2.1 i.2.2.1 (tfOf i.1 i.2.1 i.2.2.1 i.2.2.2.1) i.2.2.2.2 q.2])
theorem zipIdx_lt {α : Type} {l : List α} {q : α × Nat} (h : q ∈ l.zipIdx) : q.2 < l.length ∧ l[q.2]? = some q.1 := by
  obtain ⟨i, hi⟩ := List.getElem?_of_mem h
  rw [List.getElem?_zipIdx] at hi
  cases e : l[i]? with
  | none => rw [e] at hi; cases hi
  | some x =>
    rw [e] at hi
    have : (x, 0 + i) = q := by simpa using hi
    subst this
    simp only [Nat.zero_add]
    exact ⟨(List.getElem?_eq_some_iff.mp e).1, e⟩
theorem fn_heads_of (A : At K mg "heads_of" s_heads_of ["meeting", "row", "resting", "many"]) (c_moves_from : Fn P w K mg base 2 "moves_from" spMoves) (c_head_thing : Fn P w K mg base 4 "head_thing" spHead) (Z : Nm mg) : Fn P w K mg base 5 "heads_of" spHeads :=
  fn_at A sc_heads_of (fun _ => rfl) fun f cdv A outer s H E hr => ⟨_, (pss_cons (ps_set (i := 4) sc_heads_of.nd rfl (Or.inr rfl) (pe_callTy (k_tupF K rfl) (by rfl) Z.m_tuple b_tuple (pa_cons (pe_lc (own := [("p", 5), ("boat", 6)]) rfl sc_heads_of.nd (pi_enumB false (by rfl) Z.m_enumerate (pa_cons (pv 1) pa_nil)) (blkOk_by (own := [("p", 5), ("boat", 6)]) (N := N_heads_of) (sc := defScope s_heads_of) (by decide +kernel)) (fun _ _ _ _ _ => (k_pgtup K rfl rfl (n := 2) (pgs_cons (pg_name (i := 5) sc_heads_of.nd rfl (Or.inl rfl) (Or.inr rfl)) (pgs_cons (pg_name (i := 6) sc_heads_of.nd rfl (Or.inl rfl) (Or.inr rfl)) pgs_nil)))) (fun _ _ _ _ _ => (pts_one (pt_cmpR (k_in_seq K rfl) (pv 6) (pv 2) (by with_unfolding_all rfl)))) (fun _ _ _ _ _ => (pv 5))) pa_nil)))
      (pss_cons (ps_set (i := 7) sc_heads_of.nd rfl (Or.inr rfl) (pe_callTy (cr_dictP rfl) (by rfl) Z.m_dict b_dict (pa_cons (pe_lc (own := [("p", 5)]) rfl sc_heads_of.nd (pi_range1 (by rfl) Z.m_range (pa_cons (pe_callB (k_len K rfl) (by rfl) Z.m_len b_len (pa_cons (pv 1) pa_nil)) pa_nil)) (blkOk_by (own := [("p", 5)]) (N := N_heads_of) (sc := defScope s_heads_of) (by decide +kernel)) (fun _ _ _ _ _ => (pg_name (i := 5) sc_heads_of.nd rfl (Or.inl rfl) (Or.inr rfl))) (fun _ _ _ _ _ => pts_nil) (fun _ _ _ _ _ => (pe_tupF (pa_cons (pv 5) (pa_cons (pe_fn c_moves_from hr (by decide) (by rfl) (pa_cons (pv 0) (pa_cons (pe_callB (k_len K rfl) (by rfl) Z.m_len b_len (pa_cons (pv 1) pa_nil)) (pa_cons (pv 4) (pa_cons (pv 5) pa_nil))))) pa_nil))))) pa_nil)))
      (pss_one (ps_ret (pe_callTy (k_tupF K rfl) (by rfl) Z.m_tuple b_tuple (pa_cons (pe_lc (own := [("p", 5), ("boat", 6)]) rfl sc_heads_of.nd (pi_enumB false (by rfl) Z.m_enumerate (pa_cons (pv 1) pa_nil)) (blkOk_by (own := [("p", 5), ("boat", 6)]) (N := N_heads_of) (sc := defScope s_heads_of) (by decide +kernel)) (fun _ _ _ _ _ => (k_pgtup K rfl rfl (n := 2) (pgs_cons (pg_name (i := 5) sc_heads_of.nd rfl (Or.inl rfl) (Or.inr rfl)) (pgs_cons (pg_name (i := 6) sc_heads_of.nd rfl (Or.inl rfl) (Or.inr rfl)) pgs_nil)))) (fun _ _ _ _ _ => pts_nil) (fun _ _ _ _ _ => (pe_tupF (pa_cons (pv 6) (pa_cons (pe_fn c_head_thing hr (by decide) (by rfl) (pa_cons (pv 0) (pa_cons (pv 1) (pa_cons (pv 2) (pa_cons (pv 7) (pa_cons (pv 3) (pa_cons (pv 5) pa_nil))))))) pa_nil))))) pa_nil)))))), by
    rintro ⟨s, r, row, resting, many⟩ m ⟨h0, h1, hr', h2, h3⟩
    dsimp only at h0 h1 hr' h2 h3 ⊢
    have eP : (((row.zipIdx.filter fun q => decide (q.1 ∈ resting)).map fun q => Dt.int ((q.2 : Nat) : Int))) = (placesOf row resting).map fun n => Dt.int ((n : Nat) : Int) := by unfold placesOf; rw [List.map_map]; rfl
    refine q_asg (d := encN (placesOf row resting)) (Ev.is (ev_cbN (en_lc (wk := true) (xs := row.zipIdx) (enc := fun q : Str × Nat => Dt.tup [.int ((q.2 : Nat) : Int), .str q.1]) (ei_enumT (ys := row) (enc := Dt.str) (ea_cons (by walk_at "ev") ea_nil)) (fun _ _ => trivial) (fun q => decide (q.1 ∈ resting)) (fun q => .int ((q.2 : Nat) : Int)) (fun q hq => ⟨_, _, by decide, ga_tup rfl (gas_cons ga_name (gas_cons ga_name gas_nil)), et_test (ev_op (by walk_at "ev") (by walk_at "ev") op_inTS), fun _ => by walk_at "ev"⟩) (by simp; omega)) fun a na => ca_tupL mu_same) (congrArg Dt.tup eP)) ?_
    refine q_asgX (P := fun d m' => ∃ T, d = .ref T ∧ MLe m m' ∧ TbAt m' T row.length (tfOf s r row resting)) (ex_cbX (ex_lc (wk := false) (ds := (List.range row.length).map fun n => Dt.int ((n : Nat) : Int)) (ei_rng0 (n := row.length) (ea_cons (ev_cbA (ea_cons (by walk_at "ev") ea_nil) ca_lenT) ea_nil) (by simp) (by omega))
      (fun i acc m' => MLe m m' ∧ ∃ as : List Addr, as.length = i ∧ acc = (as.zipIdx.map fun q => Dt.tup [.int ((q.2 : Nat) : Int), .ref q.1]) ∧ ∀ j a, as[j]? = some a → m' a = some (.dic (encF (tfOf s r row resting j)))) ⟨MLe.refl _, [], rfl, rfl, fun j a h => by simp at h⟩ (fun _ _ _ _ _ _ => trivial) ?_) ?_) ?_
    · rintro i d acc m' hd ⟨hle, as, hlen, rfl, hget⟩
      obtain ⟨j, hj, rfl⟩ := getEnc hd
      have ilt : i < row.length := by
        have := (List.getElem?_eq_some_iff.mp hj).1
        simpa using this
      have ej : j = i := by
        rw [List.getElem?_range ilt] at hj
        exact (Option.some.inj hj).symm
      subst ej
      refine ⟨by simp; omega, _, _, by decide, ga_name, etx_et et_yes ?_⟩
      rw [if_pos rfl]
      refine ex_tup (eax_cons (P := fun d m2 => d = .int ((j : Nat) : Int) ∧ m2 = m') (ex_ev (by walk_at "ev") ⟨rfl, rfl⟩) ?_)
      rintro d m2 ⟨rfl, rfl⟩
      refine eax_cons (P := fun d m3 => ∃ b, m2 b = none ∧ d = .ref b ∧ m3 = mu m2 b (.dic (encF (tfOf s r row resting j)))) (ex_en (en_call (s, r, row.length, placesOf row resting, j) (ea_cons (by walk_at "ev") (ea_cons (ev_cbA (ea_cons (by walk_at "ev") ea_nil) ca_lenT) (ea_cons (by walk_at "ev") (ea_cons (by walk_at "ev") ea_nil)))) (by simp) ⟨h0, h1, hr', by dsimp only; omega, ilt⟩) fun b nb => ⟨b, nb, rfl, rfl⟩) ?_
      rintro d m3 ⟨b, nb, rfl, rfl⟩
      refine eax_nil ⟨by simp, hle.trans (MLe.new nb), as ++ [b], by simp [hlen], ?_, ?_⟩
      · rw [List.zipIdx_append, List.map_append]
        simp [hlen]
      · intro k a hk
        by_cases hkl : k < as.length
        · rw [List.getElem?_append_left hkl] at hk
          have := hget k a hk
          rw [mu_ne (fun e => by rw [e, nb] at this; cases this)]
          exact this
        · rw [List.getElem?_append_right (by omega)] at hk
          have e0 : k - as.length = 0 := by
            have := (List.getElem?_eq_some_iff.mp hk).1
            simp at this
            omega
          rw [e0] at hk
          have e1 : b = a := by simpa using hk
          have e2 : k = j := by omega
          subst e1; subst e2
          rw [mu_same]
    · rintro d m1 ⟨L, acc, m2, ⟨hle, as, hlen, rfl, hget⟩, nL, rfl, rfl⟩
      have eK : (as.zipIdx.map fun q => Dt.tup [.int ((q.2 : Nat) : Int), .ref q.1]) = (encK Dt.ref (as.zipIdx.map fun q => (q.2, q.1))).map fun kd => Dt.tup [kD kd.1, kd.2] := by
        rw [List.map_map, List.map_map]
        rfl
      refine ⟨_, ca_dictP (kds := encK Dt.ref (as.zipIdx.map fun q => (q.2, q.1))) (by rw [mu_same, eK]), fun a na => ?_⟩
      have nd : ((encK Dt.ref (as.zipIdx.map fun q => (q.2, q.1))).map (·.1)).Nodup := by
        rw [List.map_map, List.map_map]
        refine List.pairwise_iff_getElem.mpr fun i j hi hj hij => ?_
        simp only [List.getElem_map, List.getElem_zipIdx, Function.comp]
        intro e
        have := Sum.inl.inj e
        omega
      rw [mergeD_nil nd]
      have nL2 : a ≠ L := fun e => by rw [e, mu_same] at na; cases na
      refine ⟨a, rfl, ((hle.trans (MLe.new nL)).trans (MLe.new na)), ⟨_, mu_same, fun p hp => ?_⟩⟩
      have hp2 : p < as.length := by simpa [hlen] using hp
      have hget2 := hget p as[p] (List.getElem?_eq_getElem hp2)
      refine ⟨as[p], ?_, (MLe.trans (MLe.new nL) (MLe.new na)) _ _ hget2⟩
      have hm : (p, as[p]) ∈ as.zipIdx.map fun q => (q.2, q.1) := by
        refine List.mem_map.mpr ⟨(as[p], p), ?_, rfl⟩
        refine List.mem_iff_getElem?.mpr ⟨p, ?_⟩
        rw [List.getElem?_zipIdx, List.getElem?_eq_getElem hp2]
        simp
      obtain ⟨v, v1, v2⟩ := valD_of_key (k := p) (l := as.zipIdx.map fun q => (q.2, q.1)) (List.mem_map.mpr ⟨_, hm, rfl⟩)
      rw [v1]
      obtain ⟨q, q1, q2⟩ := List.mem_map.mp v2
      have q3 := (zipIdx_lt q1).2
      have e1 : q.2 = p := congrArg Prod.fst q2
      have e2 : q.1 = v := congrArg Prod.snd q2
      rw [e1, e2, List.getElem?_eq_getElem hp2] at q3
      exact q3.symm
    · rintro d m' ⟨T, rfl, hle, hT⟩
      refine s_ret (ev_cbN (en_lc (wk := true) (xs := row.zipIdx) (enc := fun q : Str × Nat => Dt.tup [.int ((q.2 : Nat) : Int), .str q.1]) (ei_enumT (ys := row) (enc := Dt.str) (ea_cons (by walk_at "ev") ea_nil)) (fun _ _ => trivial) (fun _ => true) (fun q => Dt.tup [.str q.1, headD s row.length resting row (tfOf s r row resting) many q.2]) (fun q hq => ⟨_, _, by decide, ga_tup rfl (gas_cons ga_name (gas_cons ga_name gas_nil)), et_yes, fun _ => ev_tup (ea_cons (by walk_at "ev") (ea_cons (ev_callM ((s, r, row, resting), (T, many, q.2, tfOf s r row resting)) (by walk_at "ev") rfl ⟨h0, h1, h2, h3, (zipIdx_lt hq).1, hT, tf_ok (by dsimp only; omega)⟩) ea_nil))⟩) (by simp; omega)) fun a na => ca_tupL mu_same) (fin hle ?_)
      rw [filter_tt]⟩
end
end TB
set_option Elab.async false
set_option linter.all false
set_option autoImplicit false
set_option maxRecDepth 100000
set_option maxHeartbeats 4000000
/-! shows_cannot, shows_head, _law_told_right. -/
namespace TB
open PySem PySem.Spec PyProof.Rows L2 RT
local macro_rules | `(tactic| walk_at "ev1") => `(tactic| first
  | ((with_reducible apply ev_var); rfl)
  | with_reducible exact ev_ci
  | with_reducible exact ev_cs
  | with_reducible exact ev_cb
  | with_reducible exact ev_cn
  | with_reducible apply ev_op
  | with_reducible apply ev_tup
  | with_reducible apply ev_isN
  | with_reducible apply ev_notN
  | with_reducible apply ev_notV
  | with_reducible exact op_I0i
  | with_reducible exact op_I0b
  | with_reducible exact op_eqS
  | with_reducible exact op_eqI
  | with_reducible exact op_neS
  | with_reducible exact op_neI
  | with_reducible exact op_isB
  | with_reducible exact op_inTS
  | with_reducible exact op_niTS
  | with_reducible exact op_inTI
  | with_reducible exact op_niTI
  | with_reducible apply op_ixT
  | with_reducible apply op_catT
  | with_reducible exact ea_nil
  | ((with_reducible show List.length _ ≤ 100000); first | decide | (simp <;> omega))
  | with_reducible apply ea_cons
  | with_reducible apply et_test
  | with_reducible apply et_B
  | with_reducible exact et_yes
  | with_reducible apply et_not
  | with_reducible exact ca_lenT
  | with_reducible exact ca_max
  | with_reducible exact ca_min
  | with_reducible exact eo_none
  | with_reducible apply eo_some
  | with_reducible apply ev_slT)
local macro_rules | `(tactic| walk_at "ev") => `(tactic| repeat' walk_at "ev1")
local macro_rules | `(tactic| walk_at "ev2") => `(tactic| repeat' first
  | walk_at "ev1"
  | (with_reducible apply op_mulN <;> omega)
  | (with_reducible apply op_divN <;> omega)
  | with_reducible apply ev_cbA
  | with_reducible apply ev_chain
  | with_reducible apply ev_if
  | with_reducible apply et_and
  | with_reducible apply et_or
  | with_reducible apply ev_andV
  | with_reducible apply ev_orV)

section
variable {P : Program} {w : World} {K : PySem.W.Frag} {mg : Str → Option Value} {base : Heap}
structure CanNot (s r : Nat) (row resting : List Str) (many : Nat) (boat : Str) (sets : List (List Nat)) : Prop where
  s0 : 0 < s
  s1 : s < 1000
  r1 : r < 1000
  n0 : row.length < 60
  len : sets.length = many + 1
  few : many ≤ 100
  set : ∀ st ∈ sets, (∀ p ∈ st, p < row.length) ∧ st.Pairwise (· < ·) ∧ st.length ≤ 1000
  inn : boat ∈ row
  first : ∃ st, sets[0]? = some st ∧ row.idxOf boat ∈ st
  last : ∃ st, sets[many]? = some st ∧ 0 ∉ st
  step : ∀ p ∈ sets.zip (sets.drop 1), ∀ q ∈ p.1, ∀ g ∈ keysF (tfOf s r row resting q), g ∈ p.2
theorem enumPlaces {r : Ro} {m : Mp} {ta : TA} {g : TG} {tt : TT} {te : TE} {vs : List Nat} {row resting : List Str} (h : EvA ta r m [encT row]) (hl : row.length < 50000)
    (hg : ∀ q : Str × Nat, ∃ js r2, (∀ j ∈ js, j ∈ vs) ∧ Ga true g js (Dt.tup [.int ((q.2 : Nat) : Int), .str q.1]) (wip r vs) r2 ∧ EvT tt r2 m (decide (q.1 ∈ resting)) ∧ Ev te r2 m (.int ((q.2 : Nat) : Int))) :
    Ev (tCB (rTupF K) (tCons (tLc (iEnB false K ta) g tt te vs) tNil)) r m (encN (placesOf row resting)) := by
  have eP : (((row.zipIdx.filter fun q => decide (q.1 ∈ resting)).map fun q => Dt.int ((q.2 : Nat) : Int))) = (placesOf row resting).map fun n => Dt.int ((n : Nat) : Int) := by unfold placesOf; rw [List.map_map]; rfl
  exact Ev.is (ev_cbN (en_lc (wk := true) (xs := row.zipIdx) (enc := fun q : Str × Nat => Dt.tup [.int ((q.2 : Nat) : Int), .str q.1]) (ei_enumT (ys := row) (enc := Dt.str) h) (fun _ _ => trivial) (fun q => decide (q.1 ∈ resting)) (fun q => .int ((q.2 : Nat) : Int)) (fun q hq => by
    obtain ⟨js, r2, h1, h2, h3, h4⟩ := hg q
    exact ⟨js, r2, h1, h2, h3, fun _ => h4⟩) (by simp; omega)) fun a na => ca_tupL mu_same) (congrArg Dt.tup eP)
abbrev encSets (sets : List (List Nat)) : Dt := .tup (sets.map encN)
abbrev spCannot : Sp := spV (fun i : Nat × Nat × List Str × List Str × Nat × Str × List (List Nat) => [encM i.1 i.2.1, encT i.2.2.1, encT i.2.2.2.1, .int (i.2.2.2.2.1 : Nat), .str i.2.2.2.2.2.1, encSets i.2.2.2.2.2.2]) (fun i => CanNot i.1 i.2.1 i.2.2.1 i.2.2.2.1 i.2.2.2.2.1 i.2.2.2.2.2.1 i.2.2.2.2.2.2) fun _ => .bl true
theorem fn_shows_cannot (A : At K mg "shows_cannot" s_shows_cannot ["meeting", "row", "resting", "many", "boat", "sets"]) (c_are_places : Fn P w K mg base 1 "are_places" spPlaces) (c_places_behind : Fn P w K mg base 3 "places_behind" spPlacesBehind) (Z : Nm mg) : Fn P w K mg base 4 "shows_cannot" spCannot :=
  fn_at A sc_shows_cannot (fun _ => rfl) fun f cdv A outer s H E hr => ⟨_, by
    have hu := hu_of hr
    exact (pss_cons (ps_if (PW.pt (pw_or (pt_not (pt_val (pe_callB (k_isi K rfl) (by rfl) Z.m_isinstance b_isinstance (pa_cons (pv 5) (pa_cons (pe_ty (by rfl) Z.m_tuple b_tuple) pa_nil))))) (pw_or (pt_cmpR op_ne (pe_callB (k_len K rfl) (by rfl) Z.m_len b_len (pa_cons (pv 5) pa_nil)) (pe_op op_add (pv 3) pe_int) (nomark _)) (pw_or1 (pt_not (pt_val (pe_callB (k_all K rfl rfl) (by rfl) Z.m_all b_all (pa_cons (pe_lc (own := [("one", 6)]) rfl sc_shows_cannot.nd (pi_tup (pv 5)) (blkOk_by (own := [("one", 6)]) (N := N_shows_cannot) (sc := defScope s_shows_cannot) (by decide +kernel)) (fun _ _ _ _ _ => (pg_name (i := 6) sc_shows_cannot.nd rfl (Or.inl rfl) (Or.inr rfl))) (fun _ _ _ _ _ => pts_nil) (fun _ _ _ _ _ => (pe_fn c_are_places hr (by decide) (by rfl) (pa_cons (pe_callB (k_len K rfl) (by rfl) Z.m_len b_len (pa_cons (pv 1) pa_nil)) (pa_cons (pv 6) pa_nil))))) pa_nil)))))))) (pss_one (ps_ret pe_bl)) pss_nil)
      (pss_cons (ps_set (i := 7) sc_shows_cannot.nd rfl (Or.inr rfl) (pe_callTy (k_tupF K rfl) (by rfl) Z.m_tuple b_tuple (pa_cons (pe_lc (own := [("p", 8), ("one", 6)]) rfl sc_shows_cannot.nd (pi_enumB false (by rfl) Z.m_enumerate (pa_cons (pv 1) pa_nil)) (blkOk_by (own := [("p", 8), ("one", 6)]) (N := N_shows_cannot) (sc := defScope s_shows_cannot) (by decide +kernel)) (fun _ _ _ _ _ => (k_pgtup K rfl rfl (n := 2) (pgs_cons (pg_name (i := 8) sc_shows_cannot.nd rfl (Or.inl rfl) (Or.inr rfl)) (pgs_cons (pg_name (i := 6) sc_shows_cannot.nd rfl (Or.inl rfl) (Or.inr rfl)) pgs_nil)))) (fun _ _ _ _ _ => (pts_one (pt_cmpR (k_in_seq K rfl) (pv 6) (pv 2) (by with_unfolding_all rfl)))) (fun _ _ _ _ _ => (pv 8))) pa_nil)))
      (pss_cons (ps_set (i := 9) sc_shows_cannot.nd rfl (Or.inl rfl) (pe_callTy (cr_dictP rfl) (by rfl) Z.m_dict b_dict (pa_cons (pe_lc (own := [("p", 8)]) rfl sc_shows_cannot.nd (pi_range1 (by rfl) Z.m_range (pa_cons (pe_callB (k_len K rfl) (by rfl) Z.m_len b_len (pa_cons (pv 1) pa_nil)) pa_nil)) (blkOk_by (own := [("p", 8)]) (N := N_shows_cannot) (sc := defScope s_shows_cannot) (by decide +kernel)) (fun _ _ _ _ _ => (pg_name (i := 8) sc_shows_cannot.nd rfl (Or.inl rfl) (Or.inr rfl))) (fun _ _ _ _ _ => pts_nil) (fun _ _ _ _ _ => (pe_tupF (pa_cons (pv 8) (pa_cons (pe_fn c_places_behind hr (by decide) (by rfl) (pa_cons (pv 0) (pa_cons (pe_callB (k_len K rfl) (by rfl) Z.m_len b_len (pa_cons (pv 1) pa_nil)) (pa_cons (pv 7) (pa_cons (pv 8) pa_nil))))) pa_nil))))) pa_nil)))
      (pss_cons (ps_for PassesOwn.never rfl (pi_zipB false false (by rfl) Z.m_zip (pa_cons (pv 5) (pa_cons (pe_slice (k_sl_tupF K rfl) (pv 5) (po_some pe_int) po_none) pa_nil))) (k_pgtup K rfl rfl (n := 2) (pgs_cons (pg_name (i := 10) sc_shows_cannot.nd rfl (Or.inl rfl) (Or.inl rfl)) (pgs_cons (pg_name (i := 11) sc_shows_cannot.nd rfl (Or.inr rfl) (Or.inl rfl)) pgs_nil))) (pss_one (ps_for PassesOwn.never rfl (pi_tup (pv 10)) (pg_name (i := 8) sc_shows_cannot.nd rfl (Or.inl rfl) (Or.inl rfl)) (pss_one (ps_if (pt_not (pt_val (pe_callB (k_all K rfl rfl) (by rfl) Z.m_all b_all (pa_cons (pe_lc (own := [("goal", 12)]) rfl sc_shows_cannot.nd (pi_tup (pe_dget hu (pv 9) (pv 8) (fun _ _ => rfl))) (blkOk_by (own := [("goal", 12)]) (N := N_shows_cannot) (sc := defScope s_shows_cannot) (by decide +kernel)) (fun _ _ _ _ _ => (pg_name (i := 12) sc_shows_cannot.nd rfl (Or.inl rfl) (Or.inr rfl))) (fun _ _ _ _ _ => pts_nil) (fun _ _ _ _ _ => (pe_cmpR (k_in_seq K rfl) (pv 12) (pv 11) (by with_unfolding_all rfl)))) pa_nil)))) (pss_one (ps_ret pe_bl)) pss_nil)))))
      (pss_one (ps_ret (pe_and (pe_cmpR (k_in_seq K rfl) (pe_tm PySem.F.slot_tuple_index PySem.F.type_tuple_index (k_tidx K rfl) (pv 1) (pa_cons (pv 4) pa_nil)) (pe_ix (k_ix_tup K rfl) (pv 5) pe_int (fun _ _ => rfl)) (by with_unfolding_all rfl)) (pe_one (pe_cmpR (k_notIn_seq K rfl) pe_int (pe_ix (k_ix_tup K rfl) (pv 5) (pe_un un_neg pe_int) (fun _ _ => rfl)) (by with_unfolding_all rfl)))))))))), by
    rintro ⟨s, r, row, resting, many, boat, sets⟩ m D
    dsimp only at D ⊢
    have hl := D.n0
    have hm := D.few
    have hlen := D.len
    refine q_when (EvT.is (b' := false) (et_or (et_not (et_B (ev_isT (by walk_at "ev")))) fun _ => et_or (et_test (ev_op (by walk_at "ev2") (ev_op (by walk_at "ev") (by walk_at "ev") op_I0i) op_neI)) fun _ => et_not (et_B (ev_allLc (xs := sets) (enc := encN) (ei_tup (by walk_at "ev")) (fun _ _ => trivial) (fun _ => true) (fun _ => true) (fun st hst => ⟨_, _, by decide, ga_name, et_yes, fun _ => ev_call (row.length, st) (by walk_at "ev2") (by simp) (D.set st hst)⟩) (by omega)))) ?_) (fun h => nomatch h) fun _ => ?_
    · rw [all_tt _ (fun _ _ => rfl), List.length_map, hlen]
      simp
    refine q_asg (enumPlaces (row := row) (resting := resting) (ea_cons (by walk_at "ev") ea_nil) (by omega) fun q => ⟨_, _, by decide, ga_tup rfl (gas_cons ga_name (gas_cons ga_name gas_nil)), et_test (ev_op (by walk_at "ev") (by walk_at "ev") op_inTS), by walk_at "ev"⟩) ?_
    have nd : ((encK encN ((List.range row.length).map fun p => (p, keysF (tfOf s r row resting p)))).map (·.1)).Nodup := by
      rw [List.map_map, List.map_map]
      refine List.pairwise_iff_getElem.mpr fun i j hi hj hij => ?_
      simp only [List.getElem_map, List.getElem_range, Function.comp]
      intro e
      have := Sum.inl.inj e
      omega
    refine q_asgN (o := .dic (encK encN ((List.range row.length).map fun p => (p, keysF (tfOf s r row resting p))))) (EvN.is (en_cbN (en_lc (wk := false) (xs := List.range row.length) (enc := fun n : Nat => Dt.int ((n : Nat) : Int)) (ei_rng0 (n := row.length) (ea_cons (ev_cbA (ea_cons (by walk_at "ev") ea_nil) ca_lenT) ea_nil) (by simp) (by omega)) (fun _ _ => trivial) (fun _ => true) (fun p => Dt.tup [.int ((p : Nat) : Int), encN (keysF (tfOf s r row resting p))]) (fun p hp => ⟨_, _, by decide, ga_name, et_yes, fun _ => ev_tup (ea_cons (by walk_at "ev") (ea_cons (ev_call (s, r, row.length, placesOf row resting, p) (ea_cons (by walk_at "ev") (ea_cons (ev_cbA (ea_cons (by walk_at "ev") ea_nil) ca_lenT) (ea_cons (by walk_at "ev") (ea_cons (by walk_at "ev") ea_nil)))) (by simp) ⟨D.s0, D.s1, D.r1, hl, List.mem_range.mp hp⟩) ea_nil))⟩) (by simp; omega)) fun a na => ca_dictP (kds := encK encN ((List.range row.length).map fun p => (p, keysF (tfOf s r row resting p)))) (by rw [mu_same, filter_tt, List.map_map, List.map_map]; rfl)) (by rw [mergeD_nil nd])) fun a na => ?_
    refine q_for (ei_zipTT (xs := sets) (ys := sets.drop 1) (enc := encN) (enc' := encN) (ea_cons (by walk_at "ev") (ea_cons (ev_tail (by walk_at "ev")) ea_nil))) (fun i r' m' => m' = mu m a (.dic (encK encN ((List.range row.length).map fun p => (p, keysF (tfOf s r row resting p))))) ∧ ∃ o1 o2 o3 o4 o5, r' = [some (encM s r), some (encT row), some (encT resting), some (.int (many : Nat)), some (.str boat), some (encSets sets), o1, some (encN (placesOf row resting)), o2, some (.ref a), o3, o4, o5]) ⟨rfl, _, _, _, _, _, rfl⟩ (fun _ _ _ _ => trivial) ?_ ?_
    · rintro i d r' m' hd ⟨rfl, o1, o2, o3, o4, o5, rfl⟩
      rw [List.getElem?_map] at hd
      obtain ⟨⟨h1, h2⟩, hp, rfl⟩ := Option.map_eq_some_iff.mp hd
      have hmem := memGet hp
      have hst := D.set h1 (List.of_mem_zip hmem).1
      refine ⟨_, _, ga_tup rfl (gas_cons ga_name (gas_cons ga_name gas_nil)), ?_⟩
      refine s_for (ei_tup (by walk_at "ev")) (fun j r' m' => m' = mu m a (.dic (encK encN ((List.range row.length).map fun p => (p, keysF (tfOf s r row resting p))))) ∧ ∃ o2, r' = [some (encM s r), some (encT row), some (encT resting), some (.int (many : Nat)), some (.str boat), some (encSets sets), o1, some (encN (placesOf row resting)), o2, some (.ref a), some (encN h1), some (encN h2), o5]) ⟨rfl, _, rfl⟩ (fun _ _ _ _ => trivial) ?_ ?_
      · rintro j d r' m' hd ⟨rfl, o2, rfl⟩
        obtain ⟨q, hq, rfl⟩ := getEnc hd
        have qlt := hst.1 q (memGet hq)
        have vq : valD (encK encN ((List.range row.length).map fun p => (p, keysF (tfOf s r row resting p)))) (Sum.inl ((q : Nat) : Int)) = some (encN (keysF (tfOf s r row resting q))) := by
          rw [valD_encK]
          have hm : q ∈ ((List.range row.length).map fun p => (p, keysF (tfOf s r row resting p))).map (·.1) := by
            rw [List.map_map]
            exact List.mem_map.mpr ⟨q, List.mem_range.mpr qlt, rfl⟩
          obtain ⟨v, v1, v2⟩ := valD_of_key hm
          obtain ⟨p, p1, p2⟩ := List.mem_map.mp v2
          have e1 : p = q := congrArg Prod.fst p2
          have e2 : keysF (tfOf s r row resting p) = v := congrArg Prod.snd p2
          rw [v1, ← e2, e1]
          rfl
        have kl : (keysF (tfOf s r row resting q)).length ≤ 50000 := by
          have fok := (tf_ok (s := s) (r := r) (row := row) (resting := resting) (by omega) q qlt).1
          have := fok.len
          rw [(sortN_perm _).length_eq, List.length_map]
          omega
        refine ⟨_, _, ga_name, ?_⟩
        refine s_when (EvT.is (b' := false) (et_not (et_B (ev_allLc (xs := keysF (tfOf s r row resting q)) (enc := fun n : Nat => Dt.int ((n : Nat) : Int)) (ei_tup (ev_dget (a := a) (k := Sum.inl ((q : Nat) : Int)) (by walk_at "ev") (by walk_at "ev") mu_same vq)) (fun _ _ => trivial) (fun _ => true) (fun g : Nat => decide (g ∈ h2)) (fun g hg => ⟨_, _, by decide, ga_name, et_yes, fun _ => ev_op (by walk_at "ev") (by walk_at "ev") op_inTN⟩) kl))) ?_) (fun h => nomatch h) fun _ => Wk.of ⟨rfl, _, rfl⟩
        rw [filter_tt]
        have : (keysF (tfOf s r row resting q)).all (fun g => decide (g ∈ h2)) = true := List.all_eq_true.mpr fun g hg => decide_eq_true (D.step (h1, h2) hmem q (memGet hq) g hg)
        rw [this]
        rfl
      · rintro r' m' ⟨rfl, o2, rfl⟩
        exact Wk.of ⟨rfl, _, _, _, _, _, rfl⟩
    · rintro r' m' ⟨rfl, o1, o2, o3, o4, o5, rfl⟩
      obtain ⟨s0, f1, f2⟩ := D.first
      obtain ⟨s9, l1, l2⟩ := D.last
      have hlast : sets = sets.dropLast ++ [s9] := by
        have hne : sets ≠ [] := by intro e; rw [e] at hlen; simp at hlen
        have e1 : sets.getLast hne = s9 := by
          rw [List.getLast_eq_getElem]
          have : sets[sets.length - 1]? = some s9 := by rw [hlen]; simpa using l1
          rw [List.getElem?_eq_getElem (by omega)] at this
          exact Option.some.inj this
        rw [← e1, List.dropLast_concat_getLast]
      refine s_ret (Ev.is (ev_andV (ev_op (ev_idx (by walk_at "ev") (by walk_at "ev") D.inn) (ev_op (by walk_at "ev") (by walk_at "ev") (op_ixTk (xs := sets) (enc := encN) 0 f1)) op_inTN) fun _ => ev_op (x := .int ((0 : Nat) : Int)) ev_ci (ev_op (x := encSets (sets.dropLast ++ [s9])) (Ev.is (by walk_at "ev") (by rw [← hlast])) (ev_neg ev_ci) op_ixTlast) op_niTN) ?_) (fin (MLe.new na) rfl)
      simp [f2, l2]⟩
abbrev TIdx := Nat × Nat × List Str × List Str × Nat × Str × Sum (List (List Sheet)) (List (List Nat))
def encTh : Sum (List (List Sheet)) (List (List Nat)) → Dt
  | .inl days => .tup [.str ("can" : Str), encDs days]
  | .inr sets => .tup [.str ("cannot" : Str), encSets sets]
def preTh (i : TIdx) : Prop := match i.2.2.2.2.2.2 with
  | .inl days => i.2.2.1 ≠ [] ∧ days.length = i.2.2.2.2.1 ∧ GoodDays i.1 i.2.1 i.2.2.2.1 days i.2.2.1 ∧ okT i.2.2.2.1 ∧ i.2.2.2.1.length ≤ 1000 ∧ i.2.2.2.2.1 ≤ 1000 ∧ (endDays i.1 days i.2.2.1) ≠ []
  | .inr sets => CanNot i.1 i.2.1 i.2.2.1 i.2.2.2.1 i.2.2.2.2.1 i.2.2.2.2.2.1 sets
def valTh (i : TIdx) : Bool := match i.2.2.2.2.2.2 with
  | .inl days => decide ((endDays i.1 days i.2.2.1).getD 0 default = i.2.2.2.2.2.1)
  | .inr _ => true
abbrev spShows : Sp := spV (fun i : TIdx => [encM i.1 i.2.1, encT i.2.2.1, encT i.2.2.2.1, .int (i.2.2.2.2.1 : Nat), .str i.2.2.2.2.2.1, encTh i.2.2.2.2.2.2]) preTh fun i => .bl (valTh i)
theorem fn_shows_head (A : At K mg "shows_head" s_shows_head ["meeting", "row", "resting", "many", "boat", "thing"]) (c_shows_can : Fn P w K mg base 6 "shows_can" spShowsCan) (c_shows_cannot : Fn P w K mg base 4 "shows_cannot" spCannot) (Z : Nm mg) : Fn P w K mg base 7 "shows_head" spShows :=
  fn_at A sc_shows_head (fun _ => rfl) fun f cdv A outer s H E hr => ⟨_, (pss_cons (ps_if (PW.pt (pw_or (pt_not (pt_val (pe_callB (k_isi K rfl) (by rfl) Z.m_isinstance b_isinstance (pa_cons (pv 5) (pa_cons (pe_ty (by rfl) Z.m_tuple b_tuple) pa_nil))))) (pw_or (pt_cmpR op_ne (pe_callB (k_len K rfl) (by rfl) Z.m_len b_len (pa_cons (pv 5) pa_nil)) pe_int (nomark _)) (pw_or1 (pt_not (pt_val (pe_callB (k_isi K rfl) (by rfl) Z.m_isinstance b_isinstance (pa_cons (pe_ix (k_ix_tup K rfl) (pv 5) pe_int (fun _ _ => rfl)) (pa_cons (pe_ty (by rfl) Z.m_str b_str) pa_nil))))))))) (pss_one (ps_ret pe_bl)) pss_nil)
      (pss_cons (ps_if (pt_cmpR op_eq (pe_ix (k_ix_tup K rfl) (pv 5) pe_int (fun _ _ => rfl)) pe_str (nomark _)) (pss_one (ps_ret (pe_fn c_shows_can hr (by decide) (by rfl) (pa_cons (pv 0) (pa_cons (pv 1) (pa_cons (pv 2) (pa_cons (pv 3) (pa_cons (pv 4) (pa_cons (pe_ix (k_ix_tup K rfl) (pv 5) pe_int (fun _ _ => rfl)) pa_nil))))))))) pss_nil)
      (pss_one (ps_ret (pe_and (pe_cmpR op_eq (pe_ix (k_ix_tup K rfl) (pv 5) pe_int (fun _ _ => rfl)) pe_str (nomark _)) (pe_one (pe_fn c_shows_cannot hr (by decide) (by rfl) (pa_cons (pv 0) (pa_cons (pv 1) (pa_cons (pv 2) (pa_cons (pv 3) (pa_cons (pv 4) (pa_cons (pe_ix (k_ix_tup K rfl) (pv 5) pe_int (fun _ _ => rfl)) pa_nil))))))))))))), by
    rintro ⟨s, r, row, resting, many, boat, th⟩ m hp
    cases th with
    | inl days =>
      dsimp only [encTh, valTh]
      refine q_when (EvT.is (b' := false) (et_or (et_not (et_B (ev_isT (by walk_at "ev")))) fun _ => et_or (et_test (ev_op (by walk_at "ev2") (by walk_at "ev") op_neI)) fun _ => et_not (et_B (ev_isS (z := "can") (ev_op (by walk_at "ev") (by walk_at "ev") (op_ixTd 0 rfl))))) rfl) (fun h => nomatch h) fun _ => ?_
      refine q_when (EvT.is (b' := true) (et_test (ev_op (ev_op (by walk_at "ev") (by walk_at "ev") (op_ixTd 0 rfl)) (by walk_at "ev") op_eqS)) (by simp)) (fun _ => ?_) fun h => nomatch h
      exact s_ret (ev_call (s, r, row, resting, many, boat, days) (ea_cons (by walk_at "ev") (ea_cons (by walk_at "ev") (ea_cons (by walk_at "ev") (ea_cons (by walk_at "ev") (ea_cons (by walk_at "ev") (ea_cons (ev_op (by walk_at "ev") (by walk_at "ev") (op_ixTd 1 rfl)) ea_nil)))))) rfl hp) (fin0 rfl)
    | inr sets =>
      dsimp only [encTh, valTh]
      have ne : ¬ (("cannot" : Str) = "can") := by decide +kernel
      refine q_when (EvT.is (b' := false) (et_or (et_not (et_B (ev_isT (by walk_at "ev")))) fun _ => et_or (et_test (ev_op (by walk_at "ev2") (by walk_at "ev") op_neI)) fun _ => et_not (et_B (ev_isS (z := "cannot") (ev_op (by walk_at "ev") (by walk_at "ev") (op_ixTd 0 rfl))))) rfl) (fun h => nomatch h) fun _ => ?_
      refine q_when (EvT.is (b' := false) (et_test (ev_op (ev_op (by walk_at "ev") (by walk_at "ev") (op_ixTd 0 rfl)) (by walk_at "ev") op_eqS)) (decide_eq_false ne)) (fun h => nomatch h) fun _ => ?_
      refine s_ret (ev_andV (ev_op (ev_op (by walk_at "ev") (by walk_at "ev") (op_ixTd 0 rfl)) (by walk_at "ev") op_eqS) fun _ => ev_call (s, r, row, resting, many, boat, sets) (ea_cons (by walk_at "ev") (ea_cons (by walk_at "ev") (ea_cons (by walk_at "ev") (ea_cons (by walk_at "ev") (ea_cons (by walk_at "ev") (ea_cons (ev_op (by walk_at "ev") (by walk_at "ev") (op_ixTd 1 rfl)) ea_nil)))))) rfl hp) (fin0 ?_)
      simp⟩
end
end TB
set_option Elab.async false
set_option linter.all false
set_option autoImplicit false
set_option maxRecDepth 100000
set_option maxHeartbeats 4000000
/-! _law_told_right. -/
namespace TB
open PySem PySem.Spec PyProof.Rows L2 RT
local macro_rules | `(tactic| walk_at "ev1") => `(tactic| first
  | ((with_reducible apply ev_var); rfl)
  | with_reducible exact ev_ci
  | with_reducible exact ev_cs
  | with_reducible exact ev_cb
  | with_reducible exact ev_cn
  | with_reducible apply ev_op
  | with_reducible apply ev_tup
  | with_reducible apply ev_isN
  | with_reducible apply ev_notN
  | with_reducible apply ev_notV
  | with_reducible exact op_I0i
  | with_reducible exact op_I0b
  | with_reducible exact op_eqS
  | with_reducible exact op_eqI
  | with_reducible exact op_neS
  | with_reducible exact op_neI
  | with_reducible exact op_isB
  | with_reducible exact op_inTS
  | with_reducible exact op_niTS
  | with_reducible exact op_inTI
  | with_reducible exact op_niTI
  | with_reducible apply op_ixT
  | with_reducible apply op_catT
  | with_reducible exact ea_nil
  | ((with_reducible show List.length _ ≤ 100000); first | decide | (simp <;> omega))
  | with_reducible apply ea_cons
  | with_reducible apply et_test
  | with_reducible apply et_B
  | with_reducible exact et_yes
  | with_reducible apply et_not
  | with_reducible exact ca_lenT
  | with_reducible exact ca_max
  | with_reducible exact ca_min
  | with_reducible exact eo_none
  | with_reducible apply eo_some
  | with_reducible apply ev_slT)
local macro_rules | `(tactic| walk_at "ev") => `(tactic| repeat' walk_at "ev1")
local macro_rules | `(tactic| walk_at "ev2") => `(tactic| repeat' first
  | walk_at "ev1"
  | (with_reducible apply op_mulN <;> omega)
  | (with_reducible apply op_divN <;> omega)
  | with_reducible apply ev_cbA
  | with_reducible apply ev_chain
  | with_reducible apply ev_if
  | with_reducible apply et_and
  | with_reducible apply et_or
  | with_reducible apply ev_andV
  | with_reducible apply ev_orV)

section
variable {P : Program} {w : World} {K : PySem.W.Frag} {mg : Str → Option Value} {base : Heap}
/-- what is told of a head holds, of a row's way -/
def preTold (i : (Nat × Nat × List Str × List Str × Str × Sum (List (List Sheet)) (List (List Nat))) × Addr × List (List Str)) (m : Mp) : Prop :=
  m i.2.1 = some (.lst ((i.1.2.2.1 :: i.2.2).map encT)) ∧ i.2.2.length ≤ 100 ∧ i.1.2.2.1.length < 60 ∧ match i.1.2.2.2.2.2 with
  | .inl days => i.1.2.2.1 ≠ [] ∧ days.length = i.2.2.length ∧ GoodDays i.1.1 i.1.2.1 i.1.2.2.2.1 days i.1.2.2.1 ∧ okT i.1.2.2.2.1 ∧ i.1.2.2.2.1.length ≤ 1000 ∧ (endDays i.1.1 days i.1.2.2.1) ≠ [] ∧ (endDays i.1.1 days i.1.2.2.1).getD 0 default = i.1.2.2.2.2.1
  | .inr sets => CanNot i.1.1 i.1.2.1 i.1.2.2.1 i.1.2.2.2.1 i.2.2.length i.1.2.2.2.2.1 sets ∧ ∀ p ∈ (i.1.2.2.1 :: i.2.2).zip sets, i.1.2.2.2.2.1 ∈ p.1 ∧ p.1.idxOf i.1.2.2.2.2.1 ∈ p.2
abbrev spTold : Sp := spM (fun i : (Nat × Nat × List Str × List Str × Str × Sum (List (List Sheet)) (List (List Nat))) × Addr × List (List Str) => [encM i.1.1 i.1.2.1, .ref i.2.1, encT i.1.2.2.2.1, .str i.1.2.2.2.2.1, encTh i.1.2.2.2.2.2]) preTold fun _ => .bl true
theorem fn_told_right (A : At K mg "_law_told_right" s__law_told_right ["_law_meeting", "_law_rows", "_law_resting", "_law_boat", "_law_thing"]) (c_shows_head : Fn P w K mg base 7 "shows_head" spShows) (c__law_days_right : Fn P w K mg base 6 "_law_days_right" spDaysRight) (Z : Nm mg) : Fn P w K mg base 8 "_law_told_right" spTold :=
  fn_at A sc__law_told_right (fun _ => rfl) fun f cdv A outer s H E hr => ⟨_, (pss_cons (ps_set (i := 5) sc__law_told_right.nd rfl (Or.inr rfl) (pe_op op_sub (pe_callB (k_len K rfl) (by rfl) Z.m_len b_len (pa_cons (pv 1) pa_nil)) pe_int))
      (pss_cons (ps_if (pt_cmpR op_notBl (pe_fn c_shows_head hr (by decide) (by rfl) (pa_cons (pv 0) (pa_cons (pe_ix (k_ix_list K rfl) (pv 1) pe_int (fun _ _ => rfl)) (pa_cons (pv 2) (pa_cons (pv 5) (pa_cons (pv 3) (pa_cons (pv 4) pa_nil))))))) pe_bl (nomark _)) (pss_one (ps_ret pe_bl)) pss_nil)
      (pss_cons (ps_if (pt_cmpR op_eq (pe_ix (k_ix_tup K rfl) (pv 4) pe_int (fun _ _ => rfl)) pe_str (nomark _)) (pss_cons (ps_setLc (i := 6) (own := [("_law_one", 7)]) rfl sc__law_told_right.nd rfl rfl (sw_true rfl rfl rfl (by decide +kernel)) (pi_tup (pe_ix (k_ix_list K rfl) (pv 1) pe_int (fun _ _ => rfl))) (blkOk_by (own := [("_law_one", 7)]) (N := N__law_told_right) (sc := defScope s__law_told_right) (by decide +kernel)) (fun _ _ _ _ _ => (pg_name (i := 7) sc__law_told_right.nd rfl (Or.inl rfl) (Or.inr rfl))) (fun _ _ _ _ _ => (pts_one (pt_cmpR op_ne (pv 7) (pv 3) (nomark _)))) (fun _ _ _ _ _ => (pv 7)))
      (pss_cons (ps_if (pt_val (pe_callB (k_any K rfl rfl) (by rfl) Z.m_any b_any (pa_cons (pe_lc (own := [("_law_one", 7)]) rfl sc__law_told_right.nd (pi_list (pe_slice (k_sl_list K rfl) (pv 6) po_none (po_some pe_int))) (blkOk_by (own := [("_law_one", 7)]) (N := N__law_told_right) (sc := defScope s__law_told_right) (by decide +kernel)) (fun _ _ _ _ _ => (pg_name (i := 7) sc__law_told_right.nd rfl (Or.inl rfl) (Or.inr rfl))) (fun _ _ _ _ _ => pts_nil) (fun _ _ _ _ _ => (pe_fn c_shows_head hr (by decide) (by rfl) (pa_cons (pv 0) (pa_cons (pe_ix (k_ix_list K rfl) (pv 1) pe_int (fun _ _ => rfl)) (pa_cons (pv 2) (pa_cons (pv 5) (pa_cons (pv 7) (pa_cons (pv 4) pa_nil))))))))) pa_nil))) (pss_one (ps_ret pe_bl)) pss_nil)
      (pss_one (ps_ret (pe_and (pe_cmpR op_eq (pe_callB (k_len K rfl) (by rfl) Z.m_len b_len (pa_cons (pe_ix (k_ix_tup K rfl) (pv 4) pe_int (fun _ _ => rfl)) pa_nil)) (pv 5) (nomark _)) (pe_one (pe_fn c__law_days_right hr (by decide) (by rfl) (pa_cons (pv 0) (pa_cons (pe_ix (k_ix_list K rfl) (pv 1) pe_int (fun _ _ => rfl)) (pa_cons (pv 2) (pa_cons (pv 3) (pa_cons (pe_ix (k_ix_tup K rfl) (pv 4) pe_int (fun _ _ => rfl)) pa_nil)))))))))))) pss_nil)
      (pss_one (ps_ret (pe_callB (k_all K rfl rfl) (by rfl) Z.m_all b_all (pa_cons (pe_lc (own := [("_law_row", 8), ("_law_here", 9)]) rfl sc__law_told_right.nd (pi_zipB true false (by rfl) Z.m_zip (pa_cons (pv 1) (pa_cons (pe_ix (k_ix_tup K rfl) (pv 4) pe_int (fun _ _ => rfl)) pa_nil))) (blkOk_by (own := [("_law_row", 8), ("_law_here", 9)]) (N := N__law_told_right) (sc := defScope s__law_told_right) (by decide +kernel)) (fun _ _ _ _ _ => (k_pgtup K rfl rfl (n := 2) (pgs_cons (pg_name (i := 8) sc__law_told_right.nd rfl (Or.inl rfl) (Or.inr rfl)) (pgs_cons (pg_name (i := 9) sc__law_told_right.nd rfl (Or.inl rfl) (Or.inr rfl)) pgs_nil)))) (fun _ _ _ _ _ => pts_nil) (fun _ _ _ _ _ => (pe_cmpR (k_in_seq K rfl) (pe_tm PySem.F.slot_tuple_index PySem.F.type_tuple_index (k_tidx K rfl) (pv 8) (pa_cons (pv 3) pa_nil)) (pv 9) (by with_unfolding_all rfl)))) pa_nil))))))), by
    rintro ⟨⟨s, r, row, resting, boat, th⟩, R, rest⟩ m ⟨hR, hl, hn, hp⟩
    dsimp only at hR hl hn hp ⊢
    have em : ((((row :: rest).map encT).length : Nat) : Int) - 1 = ((rest.length : Nat) : Int) := by simp
    refine q_asg (Ev.is (ev_op (ev_cbA (ea_cons (by walk_at "ev") ea_nil) (ca_lenL (a := R) hR)) (by walk_at "ev") op_I0i) (congrArg Dt.int em)) ?_
    cases th with
    | inl days =>
      obtain ⟨p1, p2, p3, p4, p5, p6, p7⟩ := hp
      dsimp only [encTh]
      have hv : valTh (s, r, row, resting, rest.length, boat, Sum.inl days) = true := by unfold valTh; exact decide_eq_true p7
      have hpre : ∀ b, preTh (s, r, row, resting, rest.length, b, Sum.inl days) := fun b => ⟨p1, p2, p3, p4, p5, by dsimp only; omega, p6⟩
      refine q_when (EvT.is (b' := false) (et_test (ev_op (ev_call (s, r, row, resting, rest.length, boat, Sum.inl days) (ea_cons (by walk_at "ev") (ea_cons (ev_op (by walk_at "ev") (by walk_at "ev") (op_ixLk (enc := encT) (a := R) 0 hR rfl)) (ea_cons (by walk_at "ev") (ea_cons (by walk_at "ev") (ea_cons (by walk_at "ev") (ea_cons (by walk_at "ev") ea_nil)))))) rfl (hpre boat)) (by walk_at "ev") op_isB)) (by rw [hv]; rfl)) (fun h => nomatch h) fun _ => ?_
      refine q_when (EvT.is (b' := true) (et_test (ev_op (ev_op (by walk_at "ev") (by walk_at "ev") (op_ixTd 0 rfl)) (by walk_at "ev") op_eqS)) (by simp)) (fun _ => ?_) fun h => nomatch h
      refine q_asgN (en_lc (xs := row) (enc := Dt.str) (ei_tup (ev_op (by walk_at "ev") (by walk_at "ev") (op_ixLk (enc := encT) (a := R) 0 hR rfl))) (fun _ _ => trivial) (fun b => !decide (b = boat)) Dt.str (fun b hb => ⟨_, _, by decide, ga_name, et_test (ev_op (by walk_at "ev") (by walk_at "ev") op_neS), fun _ => by walk_at "ev"⟩) (by omega)) fun a na => ?_
      have nR : R ≠ a := fun e => by rw [e, na] at hR; cases hR
      have hR2 : mu m a (.lst ((row.filter fun b => !decide (b = boat)).map Dt.str)) R = some (.lst ((row :: rest).map encT)) := by rw [mu_ne nR]; exact hR
      have oth : ∀ b ∈ (row.filter fun b => !decide (b = boat)).take 2, b ≠ boat := fun b hb => by
        have := (List.mem_filter.mp (List.mem_of_mem_take hb)).2
        simpa using this
      refine q_when (EvT.is (b' := false) (et_B (ev_anyLc (xs := (row.filter fun b => !decide (b = boat)).take 2) (enc := Dt.str) (ei_listN (EvN.is (en_slL (a := a) (by walk_at "ev") mu_same eo_none (eo_some (i := 2) (by walk_at "ev"))) (by rw [cut_map]; exact congrArg (fun z => MO.lst (z.map Dt.str)) (cut_b (b := 2) rfl)))) (fun _ _ => trivial) (fun _ => true) (fun b => valTh (s, r, row, resting, rest.length, b, Sum.inl days)) (fun b hb => ⟨_, _, by decide, ga_name, et_yes, fun _ => ev_call (s, r, row, resting, rest.length, b, Sum.inl days) (ea_cons (by walk_at "ev") (ea_cons (ev_op (by walk_at "ev") (by walk_at "ev") (op_ixLk (enc := encT) (a := R) 0 hR2 rfl)) (ea_cons (by walk_at "ev") (ea_cons (by walk_at "ev") (ea_cons (by walk_at "ev") (ea_cons (by walk_at "ev") ea_nil)))))) rfl (hpre b)⟩) (by rw [List.length_take]; omega))) ?_) (fun h => nomatch h) fun _ => ?_
      · rw [filter_tt]
        refine List.any_eq_false.mpr fun b hb => ?_
        have := oth b hb
        show ¬ decide ((endDays s days row).getD 0 default = b) = true
        rw [p7]
        simp
        exact fun e => this e.symm
      refine s_ret (Ev.is (ev_andV (ev_op (ev_cbA (ea_cons (ev_op (by walk_at "ev") (by walk_at "ev") (op_ixTd 1 rfl)) ea_nil) ca_lenT) (by walk_at "ev") op_eqI) fun _ => ev_call (s, r, row, resting, boat, days) (ea_cons (by walk_at "ev") (ea_cons (ev_op (by walk_at "ev") (by walk_at "ev") (op_ixLk (enc := encT) (a := R) 0 hR2 rfl)) (ea_cons (by walk_at "ev") (ea_cons (by walk_at "ev") (ea_cons (ev_op (by walk_at "ev") (by walk_at "ev") (op_ixTd 1 rfl)) ea_nil))))) rfl ⟨p1, p3, p4, p5, p6⟩) ?_) (fin (MLe.new na) rfl)
      dsimp only
      rw [p7, List.length_map, p2]
      simp
    | inr sets =>
      obtain ⟨p1, p2⟩ := hp
      dsimp only [encTh]
      have hv : valTh (s, r, row, resting, rest.length, boat, Sum.inr sets) = true := rfl
      have ne : ¬ (("cannot" : Str) = "can") := by decide +kernel
      refine q_when (EvT.is (b' := false) (et_test (ev_op (ev_call (s, r, row, resting, rest.length, boat, Sum.inr sets) (ea_cons (by walk_at "ev") (ea_cons (ev_op (by walk_at "ev") (by walk_at "ev") (op_ixLk (enc := encT) (a := R) 0 hR rfl)) (ea_cons (by walk_at "ev") (ea_cons (by walk_at "ev") (ea_cons (by walk_at "ev") (ea_cons (by walk_at "ev") ea_nil)))))) rfl p1) (by walk_at "ev") op_isB)) (by rw [hv]; rfl)) (fun h => nomatch h) fun _ => ?_
      refine q_when (EvT.is (b' := false) (et_test (ev_op (ev_op (by walk_at "ev") (by walk_at "ev") (op_ixTd 0 rfl)) (by walk_at "ev") op_eqS)) (decide_eq_false ne)) (fun h => nomatch h) fun _ => ?_
      refine s_ret (ev_allLc (wk := true) (xs := (row :: rest).zip sets) (enc := fun p : List Str × List Nat => Dt.tup [encT p.1, encN p.2]) (ei_zipLT (a := R) (xs := row :: rest) (ys := sets) (enc := encT) (enc' := encN) (ea_cons (by walk_at "ev") (ea_cons (ev_op (by walk_at "ev") (by walk_at "ev") (op_ixTd 1 rfl)) ea_nil)) hR) (fun m' l => l _ _ hR) (fun _ => true) (fun p => decide (p.1.idxOf boat ∈ p.2)) (fun p hp => ⟨_, _, by decide, ga_tup rfl (gas_cons ga_name (gas_cons ga_name gas_nil)), et_yes, fun _ => ev_op (ev_idx (by walk_at "ev") (by walk_at "ev") (p2 p hp).1) (by walk_at "ev") op_inTN⟩) (by rw [List.length_zip, List.length_cons]; omega)) (fin0 ?_)
      rw [filter_tt]
      exact congrArg Dt.bl (List.all_eq_true.mpr fun p hp => decide_eq_true (p2 p hp).2)⟩
end
end TB
set_option Elab.async false
set_option linter.all false
set_option autoImplicit false
set_option maxRecDepth 100000
set_option maxHeartbeats 4000000
/-! the pot. -/
namespace TB
open PySem PySem.Spec PyProof.Rows L2 RT
local macro_rules | `(tactic| walk_at "ev1") => `(tactic| first
  | ((with_reducible apply ev_var); rfl)
  | with_reducible exact ev_ci
  | with_reducible exact ev_cs
  | with_reducible exact ev_cb
  | with_reducible exact ev_cn
  | with_reducible apply ev_op
  | with_reducible apply ev_tup
  | with_reducible apply ev_isN
  | with_reducible apply ev_notN
  | with_reducible apply ev_notV
  | with_reducible exact op_I0i
  | with_reducible exact op_I0b
  | with_reducible exact op_eqS
  | with_reducible exact op_eqI
  | with_reducible exact op_neS
  | with_reducible exact op_neI
  | with_reducible exact op_isB
  | with_reducible exact op_inTS
  | with_reducible exact op_niTS
  | with_reducible exact op_inTI
  | with_reducible exact op_niTI
  | with_reducible apply op_ixT
  | with_reducible apply op_catT
  | with_reducible exact ea_nil
  | ((with_reducible show List.length _ ≤ 100000); first | decide | (simp <;> omega))
  | with_reducible apply ea_cons
  | with_reducible apply et_test
  | with_reducible apply et_B
  | with_reducible exact et_yes
  | with_reducible apply et_not
  | with_reducible exact ca_lenT
  | with_reducible exact ca_max
  | with_reducible exact ca_min
  | with_reducible exact eo_none
  | with_reducible apply eo_some
  | with_reducible apply ev_slT)
local macro_rules | `(tactic| walk_at "ev") => `(tactic| repeat' walk_at "ev1")
local macro_rules | `(tactic| walk_at "ev2") => `(tactic| repeat' first
  | walk_at "ev1"
  | (with_reducible apply op_mulN <;> omega)
  | (with_reducible apply op_divN <;> omega)
  | with_reducible apply ev_cbA
  | with_reducible apply ev_chain
  | with_reducible apply ev_if
  | with_reducible apply et_and
  | with_reducible apply et_or
  | with_reducible apply ev_andV
  | with_reducible apply ev_orV)

structure PotOk (b : Nat) (A S C : Int) : Prop where
  a0 : 0 ≤ A
  a1 : A < 2 ^ 400
  s0 : 0 ≤ S
  s1 : S < 2 ^ 61
  c0 : 0 ≤ C
  c1 : C ≤ b
def PotO (b : Nat) (o : MO) : Prop := ∃ A S C, o = .lst [.int A, .int S, .int C] ∧ PotOk b A S C
theorem PotO.more {b c : Nat} {o : MO} (h : PotO b o) (l : b ≤ c) : PotO c o := by
  obtain ⟨A, S, C, e, p⟩ := h
  exact ⟨A, S, C, e, p.a0, p.a1, p.s0, p.s1, p.c0, by have := p.c1; omega⟩
section
variable {P : Program} {w : World} {K : PySem.W.Frag} {mg : Str → Option Value} {base : Heap}
abbrev spTake : Sp := spOf (fun i : Addr × Nat × Nat => [.ref i.1, .int (i.2.2 : Nat)]) (fun i m => (∃ o, m i.1 = some o ∧ PotO i.2.1 o) ∧ i.2.1 < 1000000 ∧ 0 < i.2.2 ∧ i.2.2 < 1000) fun i m d m' => ∃ (v : Nat) (o : MO), v < i.2.2 ∧ d = .int (v : Nat) ∧ m' = mu m i.1 o ∧ PotO (i.2.1 + 1) o
theorem fn_take (A : At K mg "_law_take" s__law_take ["_law_pot", "_law_many"]) (Z : Nm mg) : Fn P w K mg base 1 "_law_take" spTake :=
  fn_at A sc__law_take (fun _ => rfl) fun f cdv A outer s H E hr => ⟨_, (pss_cons (ps_if (pt_cmpR op_gt (pe_ix (k_ix_list K rfl) (pv 0) pe_int (fun _ _ => rfl)) pe_int (nomark _)) (pss_cons (ps_set (i := 2) sc__law_take.nd rfl (Or.inl rfl) (pe_op op_mod (pe_ix (k_ix_list K rfl) (pv 0) pe_int (fun _ _ => rfl)) (pv 1)))
      (pss_cons (ps_asg (pe_op op_fdivW (pe_ix (k_ix_list K rfl) (pv 0) pe_int (fun _ _ => rfl)) (pv 1)) (pg_sub (pv 0) pe_int set_list))
      (pss_one (ps_ret (pv 2))))) pss_nil)
      (pss_cons (ps_asg (pe_op op_add (pe_ix (k_ix_list K rfl) (pv 0) pe_int (fun _ _ => rfl)) pe_int) (pg_sub (pv 0) pe_int set_list))
      (pss_cons (ps_set (i := 3) sc__law_take.nd rfl (Or.inl rfl) (pe_ix (k_ix_list K rfl) (pv 0) pe_int (fun _ _ => rfl)))
      (pss_cons (ps_set (i := 4) sc__law_take.nd rfl (Or.inl rfl) (pe_op op_mod (pe_op op_mulW (pe_op op_add (pe_op op_add (pe_ix (k_ix_list K rfl) (pv 0) pe_int (fun _ _ => rfl)) (pe_op op_mulW (pe_op op_mulW pe_int (pv 3)) (pv 3))) (pe_op op_mulW pe_int (pv 3))) pe_int) pe_int))
      (pss_cons (ps_set (i := 4) sc__law_take.nd rfl (Or.inl rfl) (pe_op op_mod (pe_op op_mulW (pv 4) (pe_op op_add (pe_op op_add (pe_op op_mod (pv 4) pe_int) (pe_op op_mulW pe_int (pv 3))) pe_int)) pe_int))
      (pss_one (ps_ret (pe_op op_mod (pe_op op_add (pe_op op_fdivW (pv 4) pe_int) (pe_op op_fdivW (pv 4) pe_int)) (pv 1))))))))), by
    rintro ⟨a, b, many⟩ m ⟨⟨o, hm, Av, Sv, Cv, rfl, pk⟩, hb, h0, h1⟩
    dsimp only at hm pk hb h0 h1 ⊢
    have pa0 := pk.a0; have pa1 := pk.a1; have ps0 := pk.s0; have ps1 := pk.s1; have pc0 := pk.c0; have pc1 := pk.c1
    have mp : (0 : Int) < (many : Nat) := by omega
    have fin2 : ∀ (z : Int), 0 ≤ z % (many : Nat) ∧ z % (many : Nat) < (many : Nat) := fun z => ⟨Int.emod_nonneg z (by omega), Int.emod_lt_of_pos z mp⟩
    by_cases hA : 0 < Av
    · refine q_when (EvT.is (b' := true) (et_test (ev_op (ev_op (by walk_at "ev") (by walk_at "ev") (op_ixL (a := a) (i := 0) hm (atI_n (j := 0) rfl rfl))) (by walk_at "ev") op_I0b)) (decide_eq_true hA)) (fun _ => ?_) fun h => nomatch h
      refine q_asg (ev_op (ev_op (by walk_at "ev") (by walk_at "ev") (op_ixL (a := a) (i := 0) hm (atI_n (j := 0) rfl rfl))) (by walk_at "ev") (op_modP mp)) ?_
      refine q_seq (s_setL (a := a) (j := 0) (ev_op (ev_op (by walk_at "ev") (by walk_at "ev") (op_ixL (a := a) (i := 0) hm (atI_n (j := 0) rfl rfl))) (by walk_at "ev") (op_divB 10 mp (by omega))) (by walk_at "ev") ev_ci hm (by simp) ?_)
      obtain ⟨f1, f2⟩ := fin2 Av
      refine s_ret (by walk_at "ev") (Wk.of ⟨(Av % (many : Nat)).toNat, _, by omega, by rw [Int.toNat_of_nonneg f1], rfl, Av / (many : Nat), Sv, Cv, rfl, Int.ediv_nonneg pa0 (by omega), ?_, ps0, ps1, pc0, by omega⟩)
      exact Int.lt_of_le_of_lt (Int.ediv_le_self _ pa0) pa1
    refine q_when (EvT.is (b' := false) (et_test (ev_op (ev_op (by walk_at "ev") (by walk_at "ev") (op_ixL (a := a) (i := 0) hm (atI_n (j := 0) rfl rfl))) (by walk_at "ev") op_I0b)) (decide_eq_false hA)) (fun h => nomatch h) fun _ => ?_
    refine q_seq (s_setL (a := a) (j := 2) (ev_op (ev_op (by walk_at "ev") (by walk_at "ev") (op_ixL (a := a) (i := 2) hm (atI_n (j := 2) rfl rfl))) (by walk_at "ev") op_I0i) (by walk_at "ev") ev_ci hm (by simp) ?_)
    have hm2 : mu m a (.lst [.int Av, .int Sv, .int (Cv + 1)]) a = some (.lst [.int Av, .int Sv, .int (Cv + 1)]) := mu_same
    show St _ _ _ _ (mu m a (.lst [.int Av, .int Sv, .int (Cv + 1)]))
    refine q_asg (ev_op (by walk_at "ev") (by walk_at "ev") (op_ixL (a := a) (i := 2) hm2 (atI_n (j := 2) rfl rfl))) ?_
    have t0 : 0 ≤ Cv + 1 := by omega
    have t1 : Cv + 1 < 2 ^ 21 := by omega
    have t2 : Cv + 1 ≤ ((b + 1 : Nat) : Int) := by omega
    generalize Cv + 1 = T at t0 t1 t2 hm2 ⊢
    obtain ⟨u0, u1⟩ := mul_lt (i := 65537) (a := 17) (by decide) (by decide) t0 t1
    obtain ⟨v0, v1⟩ := mul_lt u0 u1 t0 t1
    obtain ⟨w0, w1⟩ := mul_lt (i := 15485863) (a := 24) (by decide) (by decide) t0 t1
    have x0 : 0 ≤ Sv + 65537 * T * T + 15485863 * T := by omega
    have x1 : Sv + 65537 * T * T + 15485863 * T < 2 ^ 63 := by omega
    refine q_asg (ev_op (ev_op (ev_op (ev_op (ev_op (by walk_at "ev") (by walk_at "ev") (op_ixL (a := a) (i := 1) hm2 (atI_n (j := 1) rfl rfl))) (ev_op (ev_op (by walk_at "ev") (by walk_at "ev") (op_mulB 17 21 (by decide) (by decide) t0 t1)) (by walk_at "ev") (op_mulB (17 + 21) 21 u0 u1 t0 t1)) op_I0i) (ev_op (by walk_at "ev") (by walk_at "ev") (op_mulB 24 21 (by decide) (by decide) t0 t1)) op_I0i) (by walk_at "ev") (op_mulB 63 16 x0 x1 (by decide) (by decide))) (by walk_at "ev") (op_modP (by decide))) ?_
    have y0 : 0 ≤ (Sv + 65537 * T * T + 15485863 * T) * 48271 % 2305843009213693921 := Int.emod_nonneg _ (by decide)
    have y1 : (Sv + 65537 * T * T + 15485863 * T) * 48271 % 2305843009213693921 < 2 ^ 61 := Int.lt_of_lt_of_le (Int.emod_lt_of_pos _ (by decide)) (by decide)
    generalize (Sv + 65537 * T * T + 15485863 * T) * 48271 % 2305843009213693921 = Y at y0 y1
    obtain ⟨z0, z1⟩ := mul_lt (i := 99991) (a := 17) (by decide) (by decide) t0 t1
    have m0 : 0 ≤ Y % 1000003 := Int.emod_nonneg _ (by decide)
    have m1 : Y % 1000003 < 1000003 := Int.emod_lt_of_pos _ (by decide)
    refine q_asg (ev_op (ev_op (by walk_at "ev") (ev_op (ev_op (ev_op (by walk_at "ev") (by walk_at "ev") (op_modP (by decide))) (ev_op (by walk_at "ev") (by walk_at "ev") (op_mulB 17 21 (by decide) (by decide) t0 t1)) op_I0i) (by walk_at "ev") op_I0i) (op_mulB 61 40 y0 y1 (by omega) (by omega))) (by walk_at "ev") (op_modP (by decide))) ?_
    refine s_ret (ev_op (ev_op (ev_op (by walk_at "ev") (by walk_at "ev") (op_divB 10 (by decide) (by decide))) (ev_op (by walk_at "ev") (by walk_at "ev") (op_divB 30 (by decide) (by decide))) op_I0i) (by walk_at "ev") (op_modP mp)) ?_
    generalize Y * (Y % 1000003 + 99991 * T + 7) % 2305843009213693907 / 97 + Y * (Y % 1000003 + 99991 * T + 7) % 2305843009213693907 / 1000033 = G
    obtain ⟨f1, f2⟩ := fin2 G
    exact Wk.of ⟨(G % (many : Nat)).toNat, _, by omega, by rw [Int.toNat_of_nonneg f1], rfl, Av, Sv, T, rfl, pa0, pa1, ps0, ps1, t0, by omega⟩⟩
/-! ### begin -/
def seedStep (S : Int) (z : Int) : Int := (S * 39373 + z % 2147483647 + 11) % 2305843009213693951
def cell0 (ns : List Int) : Int := ns.getD 0 0
theorem seed_ok : ∀ (l : List Int) {S : Int}, 0 ≤ S ∧ S < 2 ^ 61 → 0 ≤ l.foldl seedStep S ∧ l.foldl seedStep S < 2 ^ 61
  | [], _, h => h
  | z :: l, S, h => seed_ok l (S := seedStep S z) ⟨Int.emod_nonneg _ (by decide), Int.lt_of_lt_of_le (Int.emod_lt_of_pos _ (by decide)) (by decide)⟩
abbrev spBegin (K : PySem.W.Frag) : Sp := spOf (fun i : Addr × List Int => [.ref i.1, .int 0]) (fun i m => ScrAt K m i.1 i.2 ∧ i.2.length ≤ 63) fun i m d m' => ∃ (p : Addr) (o : MO), m p = none ∧ d = .ref p ∧ m' = mu m p o ∧ PotO 0 o
theorem fn_begin (A : At K mg "_law_begin" s__law_begin ["_law_script", "_law_k"]) (Z : Nm mg) : Fn P w K mg base 1 "_law_begin" (spBegin K) :=
  fn_at A sc__law_begin (fun _ => rfl) fun f cdv A outer s H E hr => ⟨_, (pss_cons (ps_set (i := 2) sc__law_begin.nd rfl (Or.inl rfl) (pe_ifExp (pt_cmpR op_lt (pv 1) (pe_callB (k_len K rfl) (by rfl) Z.m_len b_len (pa_cons (pv 0) pa_nil)) (nomark _)) (pe_ix (k_ix_list K rfl) (pv 0) (pv 1) (fun _ _ => rfl)) pe_int))
      (pss_cons (ps_set (i := 3) sc__law_begin.nd rfl (Or.inl rfl) (pe_op op_add pe_int (pe_op op_mulW pe_int (pv 1))))
      (pss_cons (ps_for PassesOwn.never rfl (pi_list (pe_slice (k_sl_list K rfl) (pv 0) po_none (po_some pe_int))) (pg_name (i := 4) sc__law_begin.nd rfl (Or.inl rfl) (Or.inl rfl)) (pss_one (ps_set (i := 3) sc__law_begin.nd rfl (Or.inl rfl) (pe_op op_mod (pe_op op_add (pe_op op_add (pe_op op_mulW (pv 3) pe_int) (pe_op op_mod (pv 4) pe_int)) pe_int) pe_int))))
      (pss_one (ps_ret (pe_lst (pa_cons (pe_op op_mulW (pe_op op_mod (pe_callB cr_abs (by rfl) Z.m_abs b_abs (pa_cons (pv 2) pa_nil)) (pe_op op_mulW (pe_op op_pow pe_int pe_int) (pe_op op_pow pe_int pe_int))) (pe_callTy cr_int1 (by rfl) Z.m_int b_int (pa_cons (pe_cmpR op_ge (pe_callB cr_abs (by rfl) Z.m_abs b_abs (pa_cons (pv 2) pa_nil)) (pe_op op_pow pe_int pe_int) (nomark _)) pa_nil))) (pa_cons (pv 3) (pa_cons pe_int pa_nil))))))))), by
    rintro ⟨a, ns⟩ m ⟨hs, hl⟩
    dsimp only at hs hl ⊢
    refine q_asg (d := .int (cell0 ns)) (ev_if (b := decide ((0 : Int) < ((ns.length : Nat) : Int))) (et_test (ev_op (by walk_at "ev") (ev_cbA (ea_cons (by walk_at "ev") ea_nil) (ca_lenSc hs)) op_I0b)) (fun h => ev_op (by walk_at "ev") (by walk_at "ev") (op_ixSc hs ?_)) fun h => Ev.is (by walk_at "ev") ?_) ?_
    · have h' := of_decide_eq_true h
      cases ns with
      | nil => simp at h'
      | cons z ns => exact atI_n (j := 0) rfl rfl
    · have h' := of_decide_eq_false h
      cases ns with
      | nil => rfl
      | cons z ns => simp at h'
    refine q_asg (d := .int 7919) (Ev.is (ev_op (by walk_at "ev") (ev_op (by walk_at "ev") (by walk_at "ev") (op_mulB 17 1 (by decide) (by decide) (by decide) (by decide))) op_I0i) rfl) ?_
    have ec : cut ns none (some 63) = ns := by
      have := cut_b (xs := ns) (j := 63) (b := 63) rfl
      rw [this, List.take_of_length_le hl]
    refine q_for (ei_listN (ds := ns.map .int) (EvN.is (en_slSc (by walk_at "ev") hs eo_none (eo_some (i := 63) (by walk_at "ev"))) (by rw [ec]))) (fun i r' m' => m' = m ∧ ∃ o, r' = [some (.ref a), some (.int 0), some (.int (cell0 ns)), some (.int ((ns.take i).foldl seedStep 7919)), o]) ⟨rfl, _, rfl⟩ (fun _ _ _ _ => trivial) ?_ ?_
    · rintro i d r' m' hd ⟨rfl, o, rfl⟩
      obtain ⟨z, hz, rfl⟩ := getEnc hd
      obtain ⟨g0, g1⟩ := seed_ok (ns.take i) (S := 7919) (by decide)
      have et : (ns.take (i + 1)).foldl seedStep 7919 = seedStep ((ns.take i).foldl seedStep 7919) z := foldl_take hz
      rw [et]
      generalize (ns.take i).foldl seedStep 7919 = S at g0 g1
      refine ⟨_, _, ga_name, ?_⟩
      exact s_asg (ev_op (ev_op (ev_op (ev_op (by walk_at "ev") (by walk_at "ev") (op_mulB 61 16 g0 g1 (by decide) (by decide))) (ev_op (by walk_at "ev") (by walk_at "ev") (op_modP (by decide))) op_I0i) (by walk_at "ev") op_I0i) (by walk_at "ev") (op_modP (by decide))) (Wk.of ⟨rfl, some (.int z), rfl⟩)
    · rintro r' m' ⟨rfl, o, rfl⟩
      rw [List.length_map, List.take_length]
      obtain ⟨g0, g1⟩ := seed_ok ns (S := 7919) (by decide)
      generalize ns.foldl seedStep 7919 = S at g0 g1
      have hx : 0 ≤ (if cell0 ns < 0 then -cell0 ns else cell0 ns) := by split <;> omega
      generalize hX : (if cell0 ns < 0 then -cell0 ns else cell0 ns) = X at hx
      have ea : ∀ (m2 : Mp) (r2 : Ro), r2[2]? = some (some (.int (cell0 ns))) → Ev (tCB rAbs (tCons (tVar 2) tNil)) r2 m2 (.int X) := fun m2 r2 h => by
        rw [← hX]
        exact ev_cbA (ea_cons (ev_var h) ea_nil) ca_abs
      have b0 : (0 : Int) < 10 ^ (60 : Int).toNat * 10 ^ (60 : Int).toNat := by decide +kernel
      have q0 : 0 ≤ X % (10 ^ (60 : Int).toNat * 10 ^ (60 : Int).toNat) := Int.emod_nonneg _ (by decide +kernel)
      have q1 : X % (10 ^ (60 : Int).toNat * 10 ^ (60 : Int).toNat) < 2 ^ 399 := Int.lt_of_lt_of_le (Int.emod_lt_of_pos _ b0) (by decide +kernel)
      have k1 : ∀ b : Bool, (0 : Int) ≤ (if b = true then 1 else 0) ∧ (if b = true then (1 : Int) else 0) < 2 ^ 1 := fun b => by cases b <;> decide
      have pw : Ev (tOp (rI CPow fun i j => .int (i ^ j.toNat)) (tC (.int 10)) (tC (.int 60))) [some (Dt.ref a), some (.int 0), some (.int (cell0 ns)), some (.int S), o] m' (.int (10 ^ (60 : Int).toNat)) := ev_op (by walk_at "ev") (by walk_at "ev") (op_powS (by unfold CPow; decide))
      refine s_retN (en_lst (ea_cons (ev_op (ev_op (ea _ _ rfl) (ev_op pw pw (op_mulB 200 200 (by decide +kernel) (by decide +kernel) (by decide +kernel) (by decide +kernel))) (op_modP b0)) (ev_cbA (ea_cons (ev_op (ea _ _ rfl) (ev_op (by walk_at "ev") (by walk_at "ev") (op_powS (by unfold CPow; decide))) op_I0b) ea_nil) ca_intB) (op_mulB 399 1 q0 q1 (k1 _).1 (k1 _).2)) (ea_cons (by walk_at "ev") (ea_cons (by walk_at "ev") ea_nil)))) fun p hp => Wk.of ⟨p, _, hp, rfl, rfl, _, _, _, rfl, (mul_lt q0 q1 (k1 _).1 (k1 _).2).1, (mul_lt q0 q1 (k1 _).1 (k1 _).2).2, g0, g1, Int.le_refl _, Int.le_refl _⟩⟩
abbrev spLSpan : Sp := spV (fun i : Nat × Nat × Nat × Nat => [encM i.1 i.2.1, .int (i.2.2.1 : Nat), .int (i.2.2.2 : Nat)]) (fun i => i.1 < 1000 ∧ 0 < i.2.2.1 ∧ i.2.2.2 < 1000) fun i => encN [i.2.2.2 * i.1, min (i.2.2.2 * i.1 + i.1) (i.2.2.1 - 1)]
theorem fn_lspan (A : At K mg "_law_span" s__law_span ["_law_meeting", "_law_n", "_law_k"]) (Z : Nm mg) : Fn P w K mg base 1 "_law_span" spLSpan :=
  fn_at A sc__law_span (fun _ => rfl) fun f cdv A outer s H E hr => ⟨_, (pss_one (ps_ret (pe_tupF (pa_cons (pe_op op_mulW (pv 2) (pe_ix (k_ix_tup K rfl) (pv 0) pe_int (fun _ _ => rfl))) (pa_cons (pe_callB (cr_min2 rfl) (by rfl) Z.m_min b_min (pa_cons (pe_op op_add (pe_op op_mulW (pv 2) (pe_ix (k_ix_tup K rfl) (pv 0) pe_int (fun _ _ => rfl))) (pe_ix (k_ix_tup K rfl) (pv 0) pe_int (fun _ _ => rfl))) (pa_cons (pe_op op_sub (pv 1) pe_int) pa_nil))) pa_nil))))), by
    rintro ⟨s, r, n, k⟩ m ⟨hs, hn, hk⟩
    dsimp only at hs hn hk ⊢
    have e : min (((k * s : Nat) : Int) + (s : Nat)) (((n : Nat) : Int) - 1) = ((min (k * s + s) (n - 1) : Nat) : Int) := by omega
    have e0 : ∀ (m2 : Mp) (r2 : Ro), r2[0]? = some (some (encM s r)) → Ev (tOp (rIxT K) (tVar 0) (tC (.int 0))) r2 m2 (.int (s : Nat)) := fun m2 r2 h => ev_op (ev_var h) ev_ci (op_ixTd 0 rfl)
    refine s_ret (ev_tup (ea_cons (ev_op (by walk_at "ev") (e0 _ _ rfl) (op_mulN (by omega) (by omega))) (ea_cons (ev_cbA (ea_cons (ev_op (ev_op (by walk_at "ev") (e0 _ _ rfl) (op_mulN (by omega) (by omega))) (e0 _ _ rfl) op_I0i) (ea_cons (ev_op (by walk_at "ev") (by walk_at "ev") op_I0i) ea_nil)) ca_min) ea_nil))) (fin0 ?_)
    rw [e]
    rfl⟩
abbrev spLMany : Sp := spV (fun i : Nat × Nat × Nat => [encM i.1 i.2.1, .int (i.2.2 : Nat)]) (fun i => 0 < i.1 ∧ i.1 < 1000) fun i => .int (nRaces i.1 i.2.2 : Nat)
theorem fn_lmany (A : At K mg "_law_many_races" s__law_many_races ["_law_meeting", "_law_n"]) (Z : Nm mg) : Fn P w K mg base 1 "_law_many_races" spLMany :=
  fn_at A sc__law_many_races (fun _ => rfl) fun f cdv A outer s H E hr => ⟨_, (pss_one (ps_ret (pe_op op_fdiv (pe_op op_sub (pe_op op_add (pv 1) (pe_ix (k_ix_tup K rfl) (pv 0) pe_int (fun _ _ => rfl))) pe_int) (pe_ix (k_ix_tup K rfl) (pv 0) pe_int (fun _ _ => rfl))))), by
    rintro ⟨s, r, n⟩ m ⟨hs, hs2⟩
    dsimp only at hs hs2 ⊢
    have e : ((n : Nat) : Int) + (s : Nat) - 1 = ((n + s - 1 : Nat) : Int) := by omega
    have e0 : ∀ (m2 : Mp) (r2 : Ro), r2[0]? = some (some (encM s r)) → Ev (tOp (rIxT K) (tVar 0) (tC (.int 0))) r2 m2 (.int (s : Nat)) := fun m2 r2 h => ev_op (ev_var h) ev_ci (op_ixTd 0 rfl)
    exact s_ret (ev_op (Ev.is (ev_op (ev_op (by walk_at "ev") (e0 _ _ rfl) op_I0i) (by walk_at "ev") op_I0i) (congrArg Dt.int e)) (e0 _ _ rfl) (op_divN hs (by omega))) (fin0 rfl)⟩
end
end TB
set_option Elab.async false
set_option linter.all false
set_option autoImplicit false
set_option maxRecDepth 100000
set_option maxHeartbeats 4000000
/-! marks, sheet, raced. -/
namespace TB
open PySem PySem.Spec PyProof.Rows L2 RT
local macro_rules | `(tactic| walk_at "ev1") => `(tactic| first
  | ((with_reducible apply ev_var); rfl)
  | with_reducible exact ev_ci
  | with_reducible exact ev_cs
  | with_reducible exact ev_cb
  | with_reducible exact ev_cn
  | with_reducible apply ev_op
  | with_reducible apply ev_tup
  | with_reducible apply ev_isN
  | with_reducible apply ev_notN
  | with_reducible apply ev_notV
  | with_reducible exact op_I0i
  | with_reducible exact op_I0b
  | with_reducible exact op_eqS
  | with_reducible exact op_eqI
  | with_reducible exact op_neS
  | with_reducible exact op_neI
  | with_reducible exact op_isB
  | with_reducible exact op_inTS
  | with_reducible exact op_niTS
  | with_reducible exact op_inTI
  | with_reducible exact op_niTI
  | with_reducible apply op_ixT
  | with_reducible apply op_catT
  | with_reducible exact ea_nil
  | ((with_reducible show List.length _ ≤ 100000); first | decide | (simp <;> omega))
  | with_reducible apply ea_cons
  | with_reducible apply et_test
  | with_reducible apply et_B
  | with_reducible exact et_yes
  | with_reducible apply et_not
  | with_reducible exact ca_lenT
  | with_reducible exact ca_max
  | with_reducible exact ca_min
  | with_reducible exact eo_none
  | with_reducible apply eo_some
  | with_reducible apply ev_slT)
local macro_rules | `(tactic| walk_at "ev") => `(tactic| repeat' walk_at "ev1")
local macro_rules | `(tactic| walk_at "ev2") => `(tactic| repeat' first
  | walk_at "ev1"
  | (with_reducible apply op_mulN <;> omega)
  | (with_reducible apply op_divN <;> omega)
  | with_reducible apply ev_cbA
  | with_reducible apply ev_chain
  | with_reducible apply ev_if
  | with_reducible apply et_and
  | with_reducible apply et_or
  | with_reducible apply ev_andV
  | with_reducible apply ev_orV)

inductive Mk where | t | u | d | o
def mkS : Mk → Str
  | .t => "t"
  | .u => "u"
  | .d => "d"
  | .o => "o"
theorem mkS_t (k : Mk) : decide (mkS k = ("t" : Str)) = (match k with | .t => true | _ => false) := by cases k <;> decide +kernel
theorem mkS_u (k : Mk) : decide (mkS k = ("u" : Str)) = (match k with | .u => true | _ => false) := by cases k <;> decide +kernel
theorem mkS_d (k : Mk) : decide (mkS k = ("d" : Str)) = (match k with | .d => true | _ => false) := by cases k <;> decide +kernel
abbrev encK1 (k : Mk) : Dt := .str (mkS k)
def mkStep (st : Sheet × List Str) (p : Str × Mk) : Sheet × List Str := match p.2 with
  | .t => (st.1, st.2 ++ [p.1])
  | .u => (st.1 ++ [[sTouch, p.1, st.2.getLastD default]], st.2.dropLast)
  | .d => (st.1 ++ [[sDrop, p.1]], st.2)
  | .o => st
def lawSheet (start : List Str) (ws : List Mk) : Sheet := ((start.zip ws).foldl mkStep ([], [])).1
/-- a word whose pairs are closed -/
def okRun (reach : Nat) : List Mk → Nat → List Nat → Prop
  | [], _, st => st = []
  | .t :: ws, i, st => okRun reach ws (i + 1) (i :: st)
  | .u :: ws, i, st => match st with
    | [] => False
    | p :: st => i - p - 1 ≤ reach ∧ okRun reach ws (i + 1) st
  | .d :: ws, i, st => okRun reach ws (i + 1) st
  | .o :: ws, i, st => st = [] ∧ okRun reach ws (i + 1) st
section
variable {P : Program} {w : World} {K : PySem.W.Frag} {mg : Str → Option Value} {base : Heap}
theorem last_snoc {l : List Str} (h : l ≠ []) : l = l.dropLast ++ [l.getLastD default] := by
  rw [List.getLastD_eq_getLast?, List.getLast?_eq_some_getLast h]
  exact (List.dropLast_concat_getLast h).symm
theorem mk_len : ∀ (l : List (Str × Mk)) (st : Sheet × List Str), List.length (l.foldl mkStep st).1 ≤ List.length st.1 + l.length ∧ (l.foldl mkStep st).2.length ≤ st.2.length + l.length
  | [], st => ⟨by simp, by simp⟩
  | p :: l, st => by
    obtain ⟨a, b⟩ := mk_len l (mkStep st p)
    have c : List.length (mkStep st p).1 ≤ List.length st.1 + 1 ∧ (mkStep st p).2.length ≤ st.2.length + 1 := by
      unfold mkStep
      split <;> simp <;> omega
    rw [List.foldl_cons, List.length_cons]
    omega
theorem mk_form : ∀ (l : List (Str × Mk)) (st : Sheet × List Str), (∀ e ∈ st.1, e ≠ []) → ∀ e ∈ (l.foldl mkStep st).1, e ≠ []
  | [], _, h => h
  | p :: l, st, h => mk_form l (mkStep st p) fun e he => by
    unfold mkStep at he
    split at he
    · exact h e he
    · rcases List.mem_append.mp he with he | he
      · exact h e he
      · rw [List.mem_singleton.mp he]; exact fun z => nomatch z
    · rcases List.mem_append.mp he with he | he
      · exact h e he
      · rw [List.mem_singleton.mp he]; exact fun z => nomatch z
    · exact h e he
abbrev spSheet : Sp := spM (fun i : Nat × List Str × Addr × List Mk => [encT i.2.1, .ref i.2.2.1]) (fun i m => m i.2.2.1 = some (.lst (i.2.2.2.map encK1)) ∧ i.2.1.length = i.2.2.2.length ∧ i.2.1.length ≤ 1000 ∧ okRun i.1 i.2.2.2 0 []) fun i => encS (sortE (lawSheet i.2.1 i.2.2.2))
theorem fn_lsheet (A : At K mg "_law_sheet" s__law_sheet ["_law_start", "_law_word"]) (Z : Nm mg) : Fn P w K mg base 1 "_law_sheet" spSheet :=
  fn_at A sc__law_sheet (fun _ => rfl) fun f cdv A outer s H E hr => ⟨_, by
    have hu64 := hu64_of hr
    exact (pss_cons (ps_par (i := 2) (j := 3) rfl sc__law_sheet.nd rfl rfl (by decide) rfl rfl (pa_cons (pe_lst pa_nil) (pa_cons (pe_lst pa_nil) pa_nil)) (by rfl))
      (pss_cons (ps_for PassesOwn.never rfl (pi_zipB false true (by rfl) Z.m_zip (pa_cons (pv 0) (pa_cons (pv 1) pa_nil))) (k_pgtup K rfl rfl (n := 2) (pgs_cons (pg_name (i := 4) sc__law_sheet.nd rfl (Or.inl rfl) (Or.inl rfl)) (pgs_cons (pg_name (i := 5) sc__law_sheet.nd rfl (Or.inl rfl) (Or.inl rfl)) pgs_nil))) (pss_cons (ps_if (pt_cmpR op_eq (pv 5) pe_str (nomark _)) (pss_one (ps_expr (pe_bm PySem.F.plainAttrs_list PySem.F.slot_list_append PySem.F.type_list_append mt_append (pv 3) (pa_cons (pv 4) pa_nil)))) pss_nil)
      (pss_cons (ps_if (pt_cmpR op_eq (pv 5) pe_str (nomark _)) (pss_one (ps_expr (pe_bm PySem.F.plainAttrs_list PySem.F.slot_list_append PySem.F.type_list_append mt_append (pv 2) (pa_cons (pe_tupF (pa_cons pe_str (pa_cons (pv 4) (pa_cons (pe_bm0 PySem.F.plainAttrs_list PySem.F.slot_list_pop PySem.F.type_list_pop mt_pop (pv 3)) pa_nil)))) pa_nil)))) pss_nil)
      (pss_one (ps_if (pt_cmpR op_eq (pv 5) pe_str (nomark _)) (pss_one (ps_expr (pe_bm PySem.F.plainAttrs_list PySem.F.slot_list_append PySem.F.type_list_append mt_append (pv 2) (pa_cons (pe_tupF (pa_cons pe_str (pa_cons (pv 4) pa_nil))) pa_nil)))) pss_nil)))))
      (pss_one (ps_ret (pe_callTy (k_tupF K rfl) (by rfl) Z.m_tuple b_tuple (pa_cons (pe_callB (k_sortD K rfl hu64) (by rfl) Z.m_sorted b_sorted (pa_cons (pv 2) pa_nil)) pa_nil)))))), by
    rintro ⟨reach, start, wa, ws⟩ m ⟨hw, hlen, hl, hrun⟩
    dsimp only at hw hlen hl hrun ⊢
    refine q_par00 fun a b na nb ne => ?_
    have wa1 : wa ≠ a := fun e => by rw [e, na] at hw; cases hw
    have wb1 : wa ≠ b := fun e => by rw [e, nb] at hw; cases hw
    have zl : (start.zip ws).length = ws.length := by rw [List.length_zip]; omega
    refine q_for (ei_zipTL (a' := wa) (xs := start) (ys := ws) (enc := Dt.str) (enc' := encK1) (ea_cons (by walk_at "ev") (ea_cons (by walk_at "ev") ea_nil)) (by rw [mu_ne wb1, mu_ne wa1]; exact hw)) (fun i r' m' => m' = mu (mu m a (.lst ((((start.zip ws).take i).foldl mkStep ([], [])).1.map encT))) b (.lst ((((start.zip ws).take i).foldl mkStep ([], [])).2.map .str)) ∧ (∃ st, okRun reach (ws.drop i) i st ∧ st.length = (((start.zip ws).take i).foldl mkStep ([], [])).2.length) ∧ ∃ o1 o2, r' = [some (encT start), some (.ref wa), some (.ref a), some (.ref b), o1, o2]) ⟨rfl, ⟨[], hrun, rfl⟩, _, _, rfl⟩ (fun i r' m' h => by rw [h.1, mu_ne wb1, mu_ne wa1]; exact hw) ?_ ?_
    · rintro i d r' m' hd ⟨rfl, ⟨st, hst, hsl⟩, o1, o2, rfl⟩
      rw [List.getElem?_map] at hd
      obtain ⟨⟨bt, k⟩, hp, rfl⟩ := Option.map_eq_some_iff.mp hd
      have hi : i < ws.length := by
        have := (List.getElem?_eq_some_iff.mp hp).1
        omega
      have hk : ws[i]? = some k := (List.getElem?_zip_eq_some.mp hp).2
      have hdrop : ws.drop i = k :: ws.drop (i + 1) := by
        rw [List.drop_eq_getElem_cons hi]
        rw [List.getElem?_eq_getElem hi] at hk
        rw [Option.some.inj hk]
      have et : ((start.zip ws).take (i + 1)).foldl mkStep ([], []) = mkStep (((start.zip ws).take i).foldl mkStep ([], [])) (bt, k) := foldl_take hp
      obtain ⟨l1, l2⟩ := mk_len ((start.zip ws).take i) ([], [])
      rw [et]
      have tl : ((start.zip ws).take i).length ≤ 1000 := by rw [List.length_take]; omega
      generalize ((start.zip ws).take i).foldl mkStep ([], []) = T at hsl l1 l2
      obtain ⟨F, S⟩ := T
      dsimp only at hsl l1 l2 ⊢
      have z0 : ([] : Sheet).length = 0 := rfl
      have z1 : ([] : List Str).length = 0 := rfl
      have fl : List.length F ≤ 1000 := by omega
      have sl : S.length ≤ 1000 := by omega
      rw [hdrop] at hst
      refine ⟨_, _, ga_tup rfl (gas_cons ga_name (gas_cons ga_name gas_nil)), ?_⟩
      cases k with
      | t =>
        refine q_when (EvT.is (b' := true) (et_test (ev_op (by walk_at "ev") (by walk_at "ev") op_eqS)) (mkS_t .t)) (fun _ => ?_) fun h => nomatch h
        refine s_app (a := b) (ds := S.map .str) (by walk_at "ev") mu_same (by walk_at "ev") (by rw [List.length_map]; omega) ?_
        refine q_when (EvT.is (b' := false) (et_test (ev_op (by walk_at "ev") (by walk_at "ev") op_eqS)) (mkS_u .t)) (fun h => nomatch h) fun _ => ?_
        refine s_when (EvT.is (b' := false) (et_test (ev_op (by walk_at "ev") (by walk_at "ev") op_eqS)) (mkS_d .t)) (fun h => nomatch h) fun _ => Wk.of ⟨?_, ⟨i :: st, hst, ?_⟩, _, _, rfl⟩
        · rw [mu_mu]
          show _ = mu (mu m a _) b (.lst ((S ++ [bt]).map Dt.str))
          rw [List.map_append]
          rfl
        · show _ = (S ++ [bt]).length
          simp [hsl]
      | u =>
        refine q_when (EvT.is (b' := false) (et_test (ev_op (by walk_at "ev") (by walk_at "ev") op_eqS)) (mkS_t .u)) (fun h => nomatch h) fun _ => ?_
        refine q_when (EvT.is (b' := true) (et_test (ev_op (by walk_at "ev") (by walk_at "ev") op_eqS)) (mkS_u .u)) (fun _ => ?_) fun h => nomatch h
        cases st with
        | nil => exact absurd hst (by simp [okRun])
        | cons p0 st =>
          obtain ⟨_, hst⟩ := hst
          have hne : S ≠ [] := fun e => by rw [e] at hsl; simp at hsl
          have hS := last_snoc hne
          refine s_appX (a := a) (P := fun d m' => d = encT [sTouch, bt, S.getLastD default] ∧ m' = mu (mu m a (.lst (F.map encT))) b (.lst (S.dropLast.map .str))) (by walk_at "ev") ⟨_, by rw [mu_ne ne, mu_same]⟩ (ex_tup (eax_cons (P := fun d m' => d = .str sTouch ∧ m' = mu (mu m a (.lst (F.map encT))) b (.lst (S.map .str))) (ex_ev ev_cs ⟨rfl, rfl⟩) ?_)) ?_
          · rintro d m' ⟨rfl, rfl⟩
            refine eax_cons (P := fun d m' => d = .str bt ∧ m' = mu (mu m a (.lst (F.map encT))) b (.lst (S.map .str))) (ex_ev (by walk_at "ev") ⟨rfl, rfl⟩) ?_
            rintro d m' ⟨rfl, rfl⟩
            refine eax_cons (P := fun d m' => d = .str (S.getLastD default) ∧ m' = mu (mu m a (.lst (F.map encT))) b (.lst (S.dropLast.map .str))) (EvX.imp (ex_pop (a := b) (ds := S.dropLast.map .str) (d := .str (S.getLastD default)) (by walk_at "ev") (by
              rw [mu_same]
              exact congrArg (fun z => some (MO.lst z)) (by
                have := congrArg (List.map Dt.str) hS
                rw [List.map_append] at this
                exact this))) ?_) ?_
            · rintro d m' ⟨rfl, rfl⟩
              exact ⟨rfl, mu_mu⟩
            · rintro d m' ⟨rfl, rfl⟩
              exact eax_nil ⟨by simp, rfl, rfl⟩
          · rintro d m' ⟨rfl, rfl⟩
            refine ⟨F.map encT, by rw [mu_ne ne, mu_same], by rw [List.length_map]; omega, ?_⟩
            refine s_when (EvT.is (b' := false) (et_test (ev_op (by walk_at "ev") (by walk_at "ev") op_eqS)) (mkS_d .u)) (fun h => nomatch h) fun _ => Wk.of ⟨?_, ⟨st, hst, ?_⟩, _, _, rfl⟩
            · rw [mu_comm (Ne.symm ne), mu_mu]
              show _ = mu (mu m a (.lst ((F ++ [[sTouch, bt, S.getLastD default]]).map encT))) b (.lst (S.dropLast.map .str))
              rw [List.map_append]
              rfl
            · show _ = S.dropLast.length
              rw [List.length_dropLast, ← hsl]
              rfl
      | d =>
        refine q_when (EvT.is (b' := false) (et_test (ev_op (by walk_at "ev") (by walk_at "ev") op_eqS)) (mkS_t .d)) (fun h => nomatch h) fun _ => ?_
        refine q_when (EvT.is (b' := false) (et_test (ev_op (by walk_at "ev") (by walk_at "ev") op_eqS)) (mkS_u .d)) (fun h => nomatch h) fun _ => ?_
        refine s_when (EvT.is (b' := true) (et_test (ev_op (by walk_at "ev") (by walk_at "ev") op_eqS)) (mkS_d .d)) (fun _ => ?_) fun h => nomatch h
        refine s_app (a := a) (ds := F.map encT) (d := encT [sDrop, bt]) (by walk_at "ev") (by rw [mu_ne ne, mu_same]) (ev_tup (ea_cons ev_cs (ea_cons (by walk_at "ev") ea_nil))) (by rw [List.length_map]; omega) (Wk.of ⟨?_, ⟨st, hst, hsl⟩, _, _, rfl⟩)
        rw [mu_comm (Ne.symm ne), mu_mu]
        show _ = mu (mu m a (.lst ((F ++ [[sDrop, bt]]).map encT))) b (.lst (S.map .str))
        rw [List.map_append]
        rfl
      | o =>
        refine q_when (EvT.is (b' := false) (et_test (ev_op (by walk_at "ev") (by walk_at "ev") op_eqS)) (mkS_t .o)) (fun h => nomatch h) fun _ => ?_
        refine q_when (EvT.is (b' := false) (et_test (ev_op (by walk_at "ev") (by walk_at "ev") op_eqS)) (mkS_u .o)) (fun h => nomatch h) fun _ => ?_
        exact s_when (EvT.is (b' := false) (et_test (ev_op (by walk_at "ev") (by walk_at "ev") op_eqS)) (mkS_d .o)) (fun h => nomatch h) fun _ => Wk.of ⟨rfl, ⟨st, hst.2, hsl⟩, _, _, rfl⟩
    · rintro r' m' ⟨rfl, _, o1, o2, rfl⟩
      rw [List.length_map, List.take_length]
      refine s_ret (ev_cbN (en_cbA (ea_cons (by walk_at "ev") ea_nil) (ca_sortE (a := a) (by rw [mu_ne ne, mu_same]) (mk_form (start.zip ws) _ fun e h => by simp at h))) fun c nc => ca_tupL mu_same) (fin ((MLe.new na).mu nb) rfl)⟩
end
end TB
set_option Elab.async false
set_option linter.all false
set_option autoImplicit false
set_option maxRecDepth 100000
set_option maxHeartbeats 4000000
/-! raced. -/
namespace TB
open PySem PySem.Spec PyProof.Rows L2 RT
local macro_rules | `(tactic| walk_at "ev1") => `(tactic| first
  | ((with_reducible apply ev_var); rfl)
  | with_reducible exact ev_ci
  | with_reducible exact ev_cs
  | with_reducible exact ev_cb
  | with_reducible exact ev_cn
  | with_reducible apply ev_op
  | with_reducible apply ev_tup
  | with_reducible apply ev_isN
  | with_reducible apply ev_notN
  | with_reducible apply ev_notV
  | with_reducible exact op_I0i
  | with_reducible exact op_I0b
  | with_reducible exact op_eqS
  | with_reducible exact op_eqI
  | with_reducible exact op_neS
  | with_reducible exact op_neI
  | with_reducible exact op_isB
  | with_reducible exact op_inTS
  | with_reducible exact op_niTS
  | with_reducible exact op_inTI
  | with_reducible exact op_niTI
  | with_reducible apply op_ixT
  | with_reducible apply op_catT
  | with_reducible exact ea_nil
  | ((with_reducible show List.length _ ≤ 100000); first | decide | (simp <;> omega))
  | with_reducible apply ea_cons
  | with_reducible apply et_test
  | with_reducible apply et_B
  | with_reducible exact et_yes
  | with_reducible apply et_not
  | with_reducible exact ca_lenT
  | with_reducible exact ca_max
  | with_reducible exact ca_min
  | with_reducible exact eo_none
  | with_reducible apply eo_some
  | with_reducible apply ev_slT)
local macro_rules | `(tactic| walk_at "ev") => `(tactic| repeat' walk_at "ev1")
local macro_rules | `(tactic| walk_at "ev2") => `(tactic| repeat' first
  | walk_at "ev1"
  | (with_reducible apply op_mulN <;> omega)
  | (with_reducible apply op_divN <;> omega)
  | with_reducible apply ev_cbA
  | with_reducible apply ev_chain
  | with_reducible apply ev_if
  | with_reducible apply et_and
  | with_reducible apply et_or
  | with_reducible apply ev_andV
  | with_reducible apply ev_orV)

def racedStep (start : List Str) (found : List Str) (e : List Str) : List Str := (found.set (start.idxOf (e.getD 2 default)) (start.getD (start.idxOf (e.getD 1 default)) default)).set (start.idxOf (e.getD 1 default)) (start.getD (start.idxOf (e.getD 2 default)) default)
def racedR (start : List Str) (es : Sheet) : List Str := (touchesOf es).foldl (racedStep start) start
def pairsR (start : List Str) (l : Sheet) : List (Nat × Nat) := l.map fun e => (start.idxOf (e.getD 2 default), start.idxOf (e.getD 1 default))
abbrev encPr (p : Nat × Nat) : Dt := .tup [.int (p.1 : Nat), .int (p.2 : Nat)]
theorem raced_length (start : List Str) (l : Sheet) (row : List Str) : (l.foldl (racedStep start) row).length = row.length := by
  induction l generalizing row with
  | nil => rfl
  | cons e l ih => rw [List.foldl_cons, ih, racedStep]; simp
theorem raced_map (start R : List Str) (x y : Str) : (racedStep start R [sTouch, x, y]).map Dt.str = ((R.map Dt.str).set (start.idxOf y) (.str (start.getD (start.idxOf x) default))).set (start.idxOf x) (.str (start.getD (start.idxOf y) default)) := by
  unfold racedStep
  rw [List.map_set, List.map_set]
  rfl
theorem touches_snoc (l : Sheet) (e : List Str) : touchesOf (l ++ [e]) = if e.getD 0 default = ("touch" : Str) then touchesOf l ++ [e] else touchesOf l := by
  unfold touchesOf
  rw [List.filter_append]
  split
  · rename_i h
    rw [List.filter_cons_of_pos (by simpa using h)]
    rfl
  · rename_i h
    rw [List.filter_cons_of_neg (by simpa using h)]
    simp
/-- no boat between, on one side alone -/
theorem cross_no {start : List Str} {reach : Nat} {es : Sheet} (hs : SoundS start reach es) (nd : start.Nodup) {x y x' y' : Str} (h : [sTouch, x, y] ∈ es) (h' : [sTouch, x', y'] ∈ es) :
    ¬ (start.idxOf y < start.idxOf y' ∧ start.idxOf y' < start.idxOf x ∧ start.idxOf x < start.idxOf x') ∧ ¬ (start.idxOf y' < start.idxOf y ∧ start.idxOf y < start.idxOf x' ∧ start.idxOf x' < start.idxOf x) := by
  obtain ⟨t1, _, _⟩ := hs.tch x y h
  have inn : ∀ z ∈ start, (z ∈ between start x y ↔ start.idxOf y < start.idxOf z ∧ start.idxOf z < start.idxOf x) := fun z hz => by
    have hz1 : start.idxOf z < start.length := List.idxOf_lt_length_of_mem hz
    have ez : start[start.idxOf z]'hz1 = z := List.getElem_idxOf hz1
    have e1 : min (start.idxOf x) (start.idxOf y) = start.idxOf y := by omega
    have e2 : max (start.idxOf x) (start.idxOf y) = start.idxOf x := by omega
    unfold between
    rw [e1, e2]
    constructor
    · intro hm
      obtain ⟨i, hi, ei⟩ := List.mem_iff_getElem.mp hm
      rw [List.length_take, List.length_drop] at hi
      rw [List.getElem_take, List.getElem_drop] at ei
      have : start.idxOf z = start.idxOf y + 1 + i := (List.getElem_inj nd).mp (ez.trans ei.symm)
      omega
    · intro hb
      refine List.mem_iff_getElem.mpr ⟨start.idxOf z - (start.idxOf y + 1), by rw [List.length_take, List.length_drop]; omega, ?_⟩
      rw [List.getElem_take, List.getElem_drop]
      have : start.idxOf y + 1 + (start.idxOf z - (start.idxOf y + 1)) = start.idxOf z := by omega
      simp only [this]
      exact ez
  have c := hs.crs x y x' y' h h'
  have i1 := inn x' (hs.inn _ (names_mem h' (by simp)))
  have i2 := inn y' (hs.inn _ (names_mem h' (by simp)))
  rw [i1, i2] at c
  omega
section
variable {P : Program} {w : World} {K : PySem.W.Frag} {mg : Str → Option Value} {base : Heap}
abbrev spRaced : Sp := spV (fun i : List Str × Nat × Sheet => [encT i.1, .int (i.2.1 : Nat), encS i.2.2]) (fun i => SoundS i.1 i.2.1 i.2.2 ∧ (names i.2.2).length ≤ 1000 ∧ i.1.Nodup ∧ i.1.length ≤ 1000) fun i => encT (racedR i.1 i.2.2)
theorem fn_raced (A : At K mg "_law_raced" s__law_raced ["_law_start", "_law_reach", "_law_sheet_here"]) (Z : Nm mg) : Fn P w K mg base 1 "_law_raced" spRaced :=
  fn_at A sc__law_raced (fun _ => rfl) fun f cdv A outer s H E hr => ⟨_, (pss_cons (ps_asg (pe_tupF (pa_cons (pe_lst pa_nil) (pa_cons (pe_lst pa_nil) pa_nil))) (k_pgtup K rfl rfl (n := 2) (pgs_cons (pg_name (i := 3) sc__law_raced.nd rfl (Or.inr rfl) (Or.inl rfl)) (pgs_cons (pg_name (i := 4) sc__law_raced.nd rfl (Or.inl rfl) (Or.inl rfl)) pgs_nil))))
      (pss_cons (ps_for PassesOwn.never rfl (pi_tup (pv 2)) (pg_name (i := 5) sc__law_raced.nd rfl (Or.inl rfl) (Or.inl rfl)) (pss_one (ps_expr (pe_bm PySem.F.plainAttrs_list PySem.F.slot_list_extend PySem.F.type_list_extend mt_extendT (pv 3) (pa_cons (pe_slice (k_sl_tupF K rfl) (pv 5) (po_some pe_int) po_none) pa_nil)))))
      (pss_cons (ps_if (PW.pt (pw_or (pt_cmpR op_ne (pe_lenSetN rfl (by rfl) Z.m_len (by rfl) Z.m_set (pv 3)) (pe_callB (k_len K rfl) (by rfl) Z.m_len b_len (pa_cons (pv 3) pa_nil)) (nomark _)) (pw_or1 (pt_not (pt_val (pe_callB (k_all K rfl rfl) (by rfl) Z.m_all b_all (pa_cons (pe_lc (own := [("_law_boat", 6)]) rfl sc__law_raced.nd (pi_list (pv 3)) (blkOk_by (own := [("_law_boat", 6)]) (N := N__law_raced) (sc := defScope s__law_raced) (by decide +kernel)) (fun _ _ _ _ _ => (pg_name (i := 6) sc__law_raced.nd rfl (Or.inl rfl) (Or.inr rfl))) (fun _ _ _ _ _ => pts_nil) (fun _ _ _ _ _ => (pe_cmpR (k_in_seq K rfl) (pv 6) (pv 0) (by with_unfolding_all rfl)))) pa_nil))))))) (pss_one (ps_ret pe_non)) pss_nil)
      (pss_cons (ps_set (i := 7) sc__law_raced.nd rfl (Or.inl rfl) (pe_callTy (k_list K rfl) (by rfl) Z.m_list b_list (pa_cons (pv 0) pa_nil)))
      (pss_cons (ps_for PassesOwn.never rfl (pi_tup (pv 2)) (pg_name (i := 5) sc__law_raced.nd rfl (Or.inl rfl) (Or.inl rfl)) (pss_one (ps_if (pt_cmpR op_eq (pe_ix (k_ix_tup K rfl) (pv 5) pe_int (fun _ _ => rfl)) pe_str (nomark _)) (pss_cons (ps_asg (pe_tupF (pa_cons (pe_tm PySem.F.slot_tuple_index PySem.F.type_tuple_index (k_tidx K rfl) (pv 0) (pa_cons (pe_ix (k_ix_tup K rfl) (pv 5) pe_int (fun _ _ => rfl)) pa_nil)) (pa_cons (pe_tm PySem.F.slot_tuple_index PySem.F.type_tuple_index (k_tidx K rfl) (pv 0) (pa_cons (pe_ix (k_ix_tup K rfl) (pv 5) pe_int (fun _ _ => rfl)) pa_nil)) pa_nil))) (k_pgtup K rfl rfl (n := 2) (pgs_cons (pg_name (i := 8) sc__law_raced.nd rfl (Or.inr rfl) (Or.inl rfl)) (pgs_cons (pg_name (i := 9) sc__law_raced.nd rfl (Or.inr rfl) (Or.inl rfl)) pgs_nil))))
      (pss_cons (ps_if (PW.pt (pw_or (pt_not (pt_chain op_lt op_le (pv 8) (pv 9) (pe_op op_add (pe_op op_add (pv 8) (pv 1)) pe_int))) (pw_or1 (pt_not (pt_val (pe_callB (k_all K rfl rfl) (by rfl) Z.m_all b_all (pa_cons (pe_lc (own := [("_law_boat", 6)]) rfl sc__law_raced.nd (pi_tup (pe_slice (k_sl_tupF K rfl) (pv 0) (po_some (pe_op op_add (pv 8) pe_int)) (po_some (pv 9)))) (blkOk_by (own := [("_law_boat", 6)]) (N := N__law_raced) (sc := defScope s__law_raced) (by decide +kernel)) (fun _ _ _ _ _ => (pg_name (i := 6) sc__law_raced.nd rfl (Or.inl rfl) (Or.inr rfl))) (fun _ _ _ _ _ => pts_nil) (fun _ _ _ _ _ => (pe_cmpR (k_in_seq K rfl) (pv 6) (pv 3) (by with_unfolding_all rfl)))) pa_nil))))))) (pss_one (ps_ret pe_non)) pss_nil)
      (pss_cons (ps_if (pt_val (pe_callB (k_any K rfl rfl) (by rfl) Z.m_any b_any (pa_cons (pe_lc (own := [("_law_r", 10), ("_law_s", 11)]) rfl sc__law_raced.nd (pi_list (pv 4)) (blkOk_by (own := [("_law_r", 10), ("_law_s", 11)]) (N := N__law_raced) (sc := defScope s__law_raced) (by decide +kernel)) (fun _ _ _ _ _ => (k_pgtup K rfl rfl (n := 2) (pgs_cons (pg_name (i := 10) sc__law_raced.nd rfl (Or.inl rfl) (Or.inr rfl)) (pgs_cons (pg_name (i := 11) sc__law_raced.nd rfl (Or.inl rfl) (Or.inr rfl)) pgs_nil)))) (fun _ _ _ _ _ => pts_nil) (fun _ _ _ _ _ => (pe_or (pe_chain3 op_lt op_lt op_lt (pv 8) (pv 10) (pv 9) (pv 11)) (pe_one (pe_chain3 op_lt op_lt op_lt (pv 10) (pv 8) (pv 11) (pv 9)))))) pa_nil))) (pss_one (ps_ret pe_non)) pss_nil)
      (pss_cons (ps_expr (pe_bm PySem.F.plainAttrs_list PySem.F.slot_list_append PySem.F.type_list_append mt_append (pv 4) (pa_cons (pe_tupF (pa_cons (pv 8) (pa_cons (pv 9) pa_nil))) pa_nil)))
      (pss_one (ps_asg (pe_tupF (pa_cons (pe_ix (k_ix_tup K rfl) (pv 0) (pv 9) (fun _ _ => rfl)) (pa_cons (pe_ix (k_ix_tup K rfl) (pv 0) (pv 8) (fun _ _ => rfl)) pa_nil))) (k_pgtup K rfl rfl (n := 2) (pgs_cons (pg_sub (pv 7) (pv 8) set_list) (pgs_cons (pg_sub (pv 7) (pv 9) set_list) pgs_nil))))))))) pss_nil)))
      (pss_one (ps_ret (pe_callTy (k_tupF K rfl) (by rfl) Z.m_tuple b_tuple (pa_cons (pv 7) pa_nil))))))))), by
    rintro ⟨start, reach, es⟩ m ⟨hs, hnl, nd, hsl⟩
    dsimp only at hs hnl nd hsl ⊢
    have hlen := hs.len
    refine q_tup00 fun a b na nb ne => ?_
    refine q_for (ei_tup (by walk_at "ev")) (fun i r' m' => m' = mu (mu m a (.lst ((names (es.take i)).map .str))) b (.lst []) ∧ ∃ o, r' = [some (encT start), some (.int (reach : Nat)), some (encS es), some (.ref a), some (.ref b), o, none, none, none, none, none, none]) ⟨rfl, _, rfl⟩ (fun _ _ _ _ => trivial) ?_ ?_
    · rintro i d r' m' hd ⟨rfl, o, rfl⟩
      obtain ⟨e, he, rfl⟩ := getEnc hd
      have es1 : names (es.take (i + 1)) = names (es.take i) ++ e.drop 1 := by
        unfold names
        rw [List.take_add_one, he, List.flatMap_append]
        simp
      have hl1 := hnl
      rw [names_cut (i + 1) es, es1, List.length_append, List.length_append] at hl1
      refine ⟨_, _, ga_name, ?_⟩
      refine s_extT (a := a) (ds := (names (es.take i)).map .str) (es := (e.drop 1).map .str) (by walk_at "ev") (by rw [mu_ne ne, mu_same]) (ev_tail (by walk_at "ev")) (by rw [List.length_map, List.length_map]; omega) (Wk.of ⟨?_, _, rfl⟩)
      rw [mu_comm (Ne.symm ne), mu_mu, es1, List.map_append]
    rintro r' m' ⟨rfl, o, rfl⟩
    rw [List.length_map, List.take_length]
    have hma : mu (mu m a (.lst ((names es).map .str))) b (.lst []) a = some (.lst ((names es).map .str)) := by rw [mu_ne ne, mu_same]
    refine q_when (EvT.is (b' := false) (et_or (et_test (ev_op (ev_lenSet (xs := names es) (by walk_at "ev") hma hs.nd hnl) (ev_cbA (ea_cons (by walk_at "ev") ea_nil) (ca_lenL hma)) op_neI)) fun _ => et_not (et_B (ev_allLc (xs := names es) (enc := Dt.str) (ei_list (a := a) (by walk_at "ev") hma) (fun m' l => l _ _ hma) (fun _ => true) (fun x => decide (x ∈ start)) (fun x hx => ⟨_, _, by decide, ga_name, et_yes, fun _ => ev_op (by walk_at "ev") (by walk_at "ev") op_inTS⟩) (by omega)))) ?_) (fun h => nomatch h) fun _ => ?_
    · rw [filter_tt, List.length_map]
      have : (names es).all (fun x => decide (x ∈ start)) = true := List.all_eq_true.mpr fun x hx => decide_eq_true (hs.inn x hx)
      rw [this]
      simp
    refine q_asgN (en_cbA (ea_cons (by walk_at "ev") ea_nil) ca_listT) fun c nc => ?_
    have nca : c ≠ a := fun e => by rw [e, hma] at nc; cases nc
    have ncb : c ≠ b := fun e => by rw [e, mu_same] at nc; cases nc
    have ncm : m c = none := by rw [mu_ne ncb, mu_ne nca] at nc; exact nc
    refine q_for (ei_tup (by walk_at "ev")) (fun i r' m' => m' = mu (mu (mu m a (.lst ((names es).map .str))) b (.lst ((pairsR start (touchesOf (es.take i))).map encPr))) c (.lst (((touchesOf (es.take i)).foldl (racedStep start) start).map .str)) ∧ ∃ o o1 o2 o3 o4 o5, r' = [some (encT start), some (.int (reach : Nat)), some (encS es), some (.ref a), some (.ref b), o, o1, some (.ref c), o2, o3, o4, o5]) ⟨rfl, _, _, _, _, _, _, rfl⟩ (fun _ _ _ _ => trivial) ?_ ?_
    · rintro i d r' m' hd ⟨rfl, o, o1, o2, o3, o4, o5, rfl⟩
      obtain ⟨e, he, rfl⟩ := getEnc hd
      have hmem := memGet he
      have hform := hs.form e hmem
      have et : es.take (i + 1) = es.take i ++ [e] := by rw [List.take_add_one, he]; rfl
      rw [et, touches_snoc]
      have ga : ∀ X Y, mu (mu (mu m a (.lst ((names es).map .str))) b X) c Y a = some (.lst ((names es).map .str)) := fun X Y => by rw [mu_ne (Ne.symm nca), mu_ne ne, mu_same]
      have gb : ∀ X Y Z, mu (mu (mu m a X) b Y) c Z b = some Y := fun X Y Z => by rw [mu_ne (Ne.symm ncb), mu_same]
      refine ⟨_, _, ga_name, ?_⟩
      rcases hform with ⟨x, rfl⟩ | ⟨x, y, rfl⟩
      · have neD : ¬ (sDrop = ("touch" : Str)) := by decide +kernel
        rw [if_neg (show ¬ ([sDrop, x].getD 0 default = ("touch" : Str)) from neD)]
        exact s_when (EvT.is (b' := false) (et_test (ev_op (ev_op (by walk_at "ev") (by walk_at "ev") (op_ixTk (xs := [sDrop, x]) 0 rfl)) (by walk_at "ev") op_eqS)) (decide_eq_false neD)) (fun h => nomatch h) fun _ => Wk.of ⟨rfl, _, _, _, _, _, _, rfl⟩
      · rw [if_pos (show [sTouch, x, y].getD 0 default = ("touch" : Str) from rfl)]
        obtain ⟨t1, t2, t3⟩ := hs.tch x y hmem
        have hx : x ∈ start := hs.inn _ (names_mem hmem (by simp))
        have hy : y ∈ start := hs.inn _ (names_mem hmem (by simp))
        have xl : start.idxOf x < start.length := List.idxOf_lt_length_of_mem hx
        have yl : start.idxOf y < start.length := List.idxOf_lt_length_of_mem hy
        have e1 : min (start.idxOf x) (start.idxOf y) = start.idxOf y := by omega
        have e2 : max (start.idxOf x) (start.idxOf y) = start.idxOf x := by omega
        have bl : (between start x y).length = start.idxOf x - (start.idxOf y + 1) := by
          unfold between
          rw [e1, e2, List.length_take, List.length_drop]
          omega
        refine s_when (EvT.is (b' := true) (et_test (ev_op (ev_op (by walk_at "ev") (by walk_at "ev") (op_ixTk (xs := [sTouch, x, y]) 0 rfl)) (by walk_at "ev") op_eqS)) (by simp)) (fun _ => ?_) fun h => nomatch h
        have hmT : [sTouch, x, y] ∈ touchesOf es := List.mem_filter.mpr ⟨hmem, by simp⟩
        refine q_asgG (ev_tup (ea_cons (ev_idx (by walk_at "ev") (ev_op (by walk_at "ev") (by walk_at "ev") (op_ixTk (xs := [sTouch, x, y]) 2 rfl)) hy) (ea_cons (ev_idx (by walk_at "ev") (ev_op (by walk_at "ev") (by walk_at "ev") (op_ixTk (xs := [sTouch, x, y]) 1 rfl)) hx) ea_nil))) (ga_tup rfl (gas_cons ga_name (gas_cons ga_name gas_nil))) ?_
        have c3 : cut (start.map Dt.str) (some (((start.idxOf y : Nat) : Int) + 1)) (some ((start.idxOf x : Nat) : Int)) = (between start x y).map Dt.str := by
          rw [cut_map, cut_ab (a := start.idxOf y + 1) (b := start.idxOf x) (by omega) rfl]
          unfold between
          rw [e1, e2]
        have pl : (pairsR start (touchesOf (es.take i))).length ≤ 1000 := by
          unfold pairsR touchesOf
          rw [List.length_map]
          refine Nat.le_trans (List.length_filter_le _ _) ?_
          rw [List.length_take]; omega
        refine q_when (EvT.is (b' := false) (et_or (et_not (et_test (ev_chain (by walk_at "ev") (by walk_at "ev") op_I0b (fun _ => ev_op (ev_op (by walk_at "ev") (by walk_at "ev") op_I0i) (by walk_at "ev") op_I0i) fun _ => op_I0b))) fun _ => et_not (et_B (ev_allLc (xs := between start x y) (enc := Dt.str) (ei_tup (Ev.is (by walk_at "ev2") (congrArg Dt.tup c3))) (fun _ _ => trivial) (fun _ => true) (fun z => decide (z ∈ names es)) (fun z hz => ⟨_, _, by decide, ga_name, et_yes, fun _ => ev_op (by walk_at "ev") (by walk_at "ev") (op_inLS (ga _ _))⟩) (by rw [bl]; omega)))) ?_) (fun h => nomatch h) fun _ => ?_
        · have d1 : decide (((start.idxOf y : Nat) : Int) < ((start.idxOf x : Nat) : Int)) = true := decide_eq_true (by omega)
          have d2 : decide (((start.idxOf x : Nat) : Int) ≤ ((start.idxOf y : Nat) : Int) + ((reach : Nat) : Int) + 1) = true := decide_eq_true (by omega)
          have d3 : ((between start x y).filter fun _ => true).all (fun z => decide (z ∈ names es)) = true := List.all_eq_true.mpr fun z hz => decide_eq_true (t3 z (List.mem_filter.mp hz).1)
          rw [d1, d2, d3]
          rfl
        refine q_when (EvT.is (b' := false) (et_B (ev_anyLc (xs := pairsR start (touchesOf (es.take i))) (enc := encPr) (ei_list (a := b) (by walk_at "ev") (gb _ _ _)) (fun m' l => l _ _ (gb _ _ _)) (fun _ => true) (fun pq => (decide (((start.idxOf y : Nat) : Int) < ((pq.1 : Nat) : Int)) && (decide (((pq.1 : Nat) : Int) < ((start.idxOf x : Nat) : Int)) && decide (((start.idxOf x : Nat) : Int) < ((pq.2 : Nat) : Int)))) || (decide (((pq.1 : Nat) : Int) < ((start.idxOf y : Nat) : Int)) && (decide (((start.idxOf y : Nat) : Int) < ((pq.2 : Nat) : Int)) && decide (((pq.2 : Nat) : Int) < ((start.idxOf x : Nat) : Int))))) (fun pq hpq => ⟨_, _, by decide, ga_tup rfl (gas_cons ga_name (gas_cons ga_name gas_nil)), et_yes, fun _ => ev_orV (ev_chain3 (by walk_at "ev") (by walk_at "ev") op_I0b (fun _ => by walk_at "ev") (fun _ => op_I0b) (fun _ => by walk_at "ev") fun _ => op_I0b) fun _ => ev_chain3 (by walk_at "ev") (by walk_at "ev") op_I0b (fun _ => by walk_at "ev") (fun _ => op_I0b) (fun _ => by walk_at "ev") fun _ => op_I0b⟩) (by omega))) ?_) (fun h => nomatch h) fun _ => ?_
        · rw [filter_tt]
          refine List.any_eq_false.mpr fun pq hpq => ?_
          obtain ⟨e', he', rfl⟩ := List.mem_map.mp hpq
          obtain ⟨x', y', rfl, hm'⟩ := touch_mem (fun z hz => hs.form z (List.mem_of_mem_take hz)) he'
          obtain ⟨n1, n2⟩ := cross_no hs nd hmem (List.mem_of_mem_take hm')
          simp only [List.getD_cons_succ, List.getD_cons_zero, Bool.or_eq_true, Bool.and_eq_true, decide_eq_true_eq, Int.ofNat_lt]
          rintro (h | h)
          · exact n1 ⟨h.1, h.2.1, h.2.2⟩
          · exact n2 ⟨h.1, h.2.1, h.2.2⟩
        refine q_seq (s_app (a := b) (ds := (pairsR start (touchesOf (es.take i))).map encPr) (d := encPr (start.idxOf y, start.idxOf x)) (by walk_at "ev") (gb _ _ _) (ev_tup (ea_cons (by walk_at "ev") (ea_cons (by walk_at "ev") ea_nil))) (by rw [List.length_map]; omega) ?_)
        have gx : start[start.idxOf x]? = some (start.getD (start.idxOf x) default) := by simp [xl]
        have gy : start[start.idxOf y]? = some (start.getD (start.idxOf y) default) := by simp [yl]
        have rl := raced_length start (touchesOf (es.take i)) start
        refine s_set2 (a := c) (ds := ((touchesOf (es.take i)).foldl (racedStep start) start).map .str) (j := start.idxOf y) (k := start.idxOf x) (ev_tup (ea_cons (ev_op (by walk_at "ev") (by walk_at "ev") (op_ixTn (enc := Dt.str) rfl gx)) (ea_cons (ev_op (by walk_at "ev") (by walk_at "ev") (op_ixTn (enc := Dt.str) rfl gy)) ea_nil))) (by walk_at "ev") (by walk_at "ev") (by rw [mu_ne ncb, mu_same]) (by rw [List.length_map, rl]; exact yl) (by walk_at "ev") (by walk_at "ev") (by rw [List.length_map, rl]; exact xl) (Wk.of ⟨?_, _, _, _, _, _, _, rfl⟩)
        rw [mu_comm (a := c) (b := b) ncb, mu_mu, mu_mu, List.foldl_append]
        unfold pairsR
        rw [List.map_append, List.map_append, List.foldl_cons, List.foldl_nil, raced_map]
        rfl
    · rintro r' m' ⟨rfl, o, o1, o2, o3, o4, o5, rfl⟩
      rw [List.length_map, List.take_length]
      exact s_ret (ev_cbA (ea_cons (by walk_at "ev") ea_nil) (ca_tupL mu_same)) (fin ((((MLe.new na).mu nb)).mu ncm) rfl)⟩
end
end TB
set_option Elab.async false
set_option linter.all false
set_option autoImplicit false
set_option maxRecDepth 100000
set_option maxHeartbeats 4000000
/-! marks. -/
namespace TB
open PySem PySem.Spec PyProof.Rows L2 RT
local macro_rules | `(tactic| walk_at "ev1") => `(tactic| first
  | ((with_reducible apply ev_var); rfl)
  | with_reducible exact ev_ci
  | with_reducible exact ev_cs
  | with_reducible exact ev_cb
  | with_reducible exact ev_cn
  | with_reducible apply ev_op
  | with_reducible apply ev_tup
  | with_reducible apply ev_isN
  | with_reducible apply ev_notN
  | with_reducible apply ev_notV
  | with_reducible exact op_I0i
  | with_reducible exact op_I0b
  | with_reducible exact op_eqS
  | with_reducible exact op_eqI
  | with_reducible exact op_neS
  | with_reducible exact op_neI
  | with_reducible exact op_isB
  | with_reducible exact op_inTS
  | with_reducible exact op_niTS
  | with_reducible exact op_inTI
  | with_reducible exact op_niTI
  | with_reducible apply op_ixT
  | with_reducible apply op_catT
  | with_reducible exact ea_nil
  | ((with_reducible show List.length _ ≤ 100000); first | decide | (simp <;> omega))
  | with_reducible apply ea_cons
  | with_reducible apply et_test
  | with_reducible apply et_B
  | with_reducible exact et_yes
  | with_reducible apply et_not
  | with_reducible exact ca_lenT
  | with_reducible exact ca_max
  | with_reducible exact ca_min
  | with_reducible exact eo_none
  | with_reducible apply eo_some
  | with_reducible apply ev_slT)
local macro_rules | `(tactic| walk_at "ev") => `(tactic| repeat' walk_at "ev1")
local macro_rules | `(tactic| walk_at "ev2") => `(tactic| repeat' first
  | walk_at "ev1"
  | (with_reducible apply op_mulN <;> omega)
  | (with_reducible apply op_divN <;> omega)
  | with_reducible apply ev_cbA
  | with_reducible apply ev_chain
  | with_reducible apply ev_if
  | with_reducible apply et_and
  | with_reducible apply et_or
  | with_reducible apply ev_andV
  | with_reducible apply ev_orV)

inductive Gen (reach : Nat) : List Mk → List Nat → Prop
  | nil : Gen reach [] []
  | u {w : List Mk} {st : List Nat} {p : Nat} : Gen reach w (st ++ [p]) → w.length - p - 1 ≤ reach → Gen reach (w ++ [.u]) st
  | t {w : List Mk} {st : List Nat} : Gen reach w st → Gen reach (w ++ [.t]) (st ++ [w.length])
  | d {w : List Mk} {st : List Nat} : Gen reach w st → Gen reach (w ++ [.d]) st
  | o {w : List Mk} : Gen reach w [] → Gen reach (w ++ [.o]) []
def fixW (w : List Mk) (st : List Nat) : List Mk := w.zipIdx.map fun q => if q.2 ∈ st then .d else q.1
theorem gen_len {reach : Nat} {w : List Mk} {st : List Nat} (h : Gen reach w st) : st.length ≤ w.length := by
  induction h with
  | nil => simp
  | u _ _ ih => simp at ih ⊢; omega
  | t _ ih => simp at ih ⊢; omega
  | d _ ih => simp at ih ⊢; omega
  | o _ ih => simp
theorem pys_ints (ns : List Nat) : pys (ns.map fun n => Dt.int ((n : Nat) : Int)) = ns.map fun n => PyData.int ((n : Nat) : Int) := by
  rw [pys_map, List.map_map]
  refine List.map_congr_left fun n _ => ?_
  show py (.int _) = _
  rw [py]
theorem shaped_ints (ns : List Nat) : SeqAt.shaped (.list (pys (ns.map fun n => Dt.int ((n : Nat) : Int)))) = true := by
  have h1 : ∀ l : List Nat, PyData.canLayAll0 (l.map fun n => PyData.int ((n : Nat) : Int)) = true := by
    intro l
    induction l with
    | nil => simp [PyData.canLayAll0]
    | cons a l ih => rw [List.map_cons, PyData.canLayAll0, ih]; simp [PyData.canLay0]
  have h2 : ∀ l : List Nat, PyData.depthAll (l.map fun n => PyData.int ((n : Nat) : Int)) = 0 := by
    intro l
    induction l with
    | nil => simp [PyData.depthAll]
    | cons a l ih => rw [List.map_cons, PyData.depthAll, ih]; simp [PyData.depth]
  unfold SeqAt.shaped
  rw [pys_ints, PyData.canLay0, h1, PyData.depth, h2]
  rfl
theorem pures_ints (ns : List Nat) : pures (ns.map fun n => Dt.int ((n : Nat) : Int)) = true := by
  rw [pures_all, List.all_map]
  exact List.all_eq_true.mpr fun x _ => by show TB.pure (.int _) = true; simp [TB.pure]
theorem eqv_nil (ns : List Nat) : PyData.eqv (.list (pys (ns.map fun n => Dt.int ((n : Nat) : Int)))) (.list (pys [])) = ns.isEmpty := by
  rw [pys_ints, pys]
  cases ns with
  | nil => simp [PyData.eqv, PyData.eqvAll]
  | cons a l => simp [PyData.eqv, PyData.eqvAll]
section
variable {K : PySem.W.Frag} {r : Ro} {m : Mp} {te : TE} {a : Addr} {ns : List Nat}
theorem ev_neNil (h : Ev te r m (.ref a)) (hm : m a = some (.lst (ns.map fun n => Dt.int ((n : Nat) : Int)))) : Ev (tOp (rNeD K) te (tLst tNil)) r m (.bl (!ns.isEmpty)) := by
  rw [← eqv_nil]
  exact ev_opN2 h (en_lst ea_nil) fun b nb => op_neLL (by rw [mu_ne (fun e => by rw [e, nb] at hm; cases hm)]; exact hm) mu_same (pures_ints ns) (by rfl) (shaped_ints ns) (shaped_ints [])
theorem ev_eqNil (h : Ev te r m (.ref a)) (hm : m a = some (.lst (ns.map fun n => Dt.int ((n : Nat) : Int)))) : Ev (tOp (rEqD K) te (tLst tNil)) r m (.bl ns.isEmpty) := by
  rw [← eqv_nil]
  exact ev_opN2 h (en_lst ea_nil) fun b nb => op_eqLL (by rw [mu_ne (fun e => by rw [e, nb] at hm; cases hm)]; exact hm) mu_same (pures_ints ns) (by rfl) (shaped_ints ns) (shaped_ints [])
theorem op_inLN {x : Nat} (hm : m a = some (.lst (ns.map fun n => Dt.int ((n : Nat) : Int)))) : Op (rIn K false) (.int (x : Nat)) (.ref a) m (.bl (decide (x ∈ ns))) := by
  refine Op.is (op_inLI (xs := ns.map fun n => ((n : Nat) : Int)) (by rw [hm, List.map_map]; rfl)) (congrArg Dt.bl (decide_eq_decide.mpr ⟨fun h => ?_, fun h => List.mem_map.mpr ⟨x, h, rfl⟩⟩))
  obtain ⟨y, hy, e⟩ := List.mem_map.mp h
  have : y = x := by omega
  rw [← this]; exact hy
end
theorem ex_take {r : Ro} {m : Mp} {tr : TA} {E : XK} {pa : Addr} {b : Nat} {o : MO} {es : List Dt} (n : Nat) (h : EvA tr r m es) (he : es = [.ref pa, .int ((n : Nat) : Int)]) (hm : m pa = some o) (hp : PotO b o) (hb : b < 1000000) (h0 : 0 < n) (h1 : n < 1000) :
    EvX (tCall spTake [] E tr) r m (fun d m' => ∃ (v : Nat) (o' : MO), v < n ∧ d = .int ((v : Nat) : Int) ∧ m' = mu m pa o' ∧ PotO (b + 1) o') :=
  EvX.imp (ex_call (pa, b, n) h he ⟨⟨o, hm, hp⟩, hb, h0, h1⟩) fun d m' h => h
section
variable {P : Program} {w : World} {K : PySem.W.Frag} {mg : Str → Option Value} {base : Heap}
abbrev spMarks : Sp := spOf (fun i : Addr × Nat × Nat × Nat => [.ref i.1, .int (i.2.2.1 : Nat), .int (i.2.2.2 : Nat)]) (fun i m => (∃ o, m i.1 = some o ∧ PotO i.2.1 o) ∧ i.2.1 < 100000 ∧ i.2.2.2 ≤ 100) fun i m d m' =>
  ∃ (w : List Mk) (st : List Nat) (o : MO) (L : Addr), Gen i.2.2.1 w st ∧ w.length = i.2.2.2 ∧ PotO (i.2.1 + i.2.2.2) o ∧ m L = none ∧ d = .ref L ∧ m' = mu (mu m i.1 o) L (.lst ((fixW w st).map encK1))
theorem fn_marks (A : At K mg "_law_marks" s__law_marks ["_law_pot", "_law_reach", "_law_many"]) (c__law_take : Fn P w K mg base 1 "_law_take" spTake) (Z : Nm mg) : Fn P w K mg base 2 "_law_marks" spMarks :=
  fn_at A sc__law_marks (fun _ => rfl) fun f cdv A outer s H E hr => ⟨_, by
    have hu64 := hu64_of hr
    exact (pss_cons (ps_asg (pe_tupF (pa_cons (pe_lst pa_nil) (pa_cons (pe_lst pa_nil) pa_nil))) (k_pgtup K rfl rfl (n := 2) (pgs_cons (pg_name (i := 3) sc__law_marks.nd rfl (Or.inl rfl) (Or.inl rfl)) (pgs_cons (pg_name (i := 4) sc__law_marks.nd rfl (Or.inr rfl) (Or.inl rfl)) pgs_nil))))
      (pss_cons (ps_for PassesOwn.never rfl (pi_range1 (by rfl) Z.m_range (pa_cons (pv 2) pa_nil)) (pg_name (i := 5) sc__law_marks.nd rfl (Or.inl rfl) (Or.inl rfl)) (pss_cons (ps_set (i := 6) sc__law_marks.nd rfl (Or.inl rfl) (pe_fn c__law_take hr (by decide) (by rfl) (pa_cons (pv 0) (pa_cons pe_int pa_nil))))
      (pss_one (ps_if (PW.pt (pw_and (pt_cmpR (k_neD K rfl hu64) (pv 4) (pe_lst pa_nil) (nomark _)) (pw_and (pt_cmpR op_lt (pv 6) pe_int (nomark _)) (pw_and1 (pt_cmpR op_le (pe_op op_sub (pe_op op_sub (pv 5) (pe_ix (k_ix_list K rfl) (pv 4) (pe_un un_neg pe_int) (fun _ _ => rfl))) pe_int) (pv 1) (nomark _)))))) (pss_cons (ps_expr (pe_bm0 PySem.F.plainAttrs_list PySem.F.slot_list_pop PySem.F.type_list_pop mt_pop (pv 4)))
      (pss_one (ps_expr (pe_bm PySem.F.plainAttrs_list PySem.F.slot_list_append PySem.F.type_list_append mt_append (pv 3) (pa_cons pe_str pa_nil))))) (pss_one (ps_if (PW.pt (pw_or (pt_cmpR op_eq (pv 6) pe_int (nomark _)) (pw_or1 (PW.pt (pw_and (pt_cmpR op_eq (pv 6) pe_int (nomark _)) (pw_and1 (pt_cmpR (k_eqD K rfl hu64) (pv 4) (pe_lst pa_nil) (nomark _)))))))) (pss_cons (ps_expr (pe_bm PySem.F.plainAttrs_list PySem.F.slot_list_append PySem.F.type_list_append mt_append (pv 4) (pa_cons (pv 5) pa_nil)))
      (pss_one (ps_expr (pe_bm PySem.F.plainAttrs_list PySem.F.slot_list_append PySem.F.type_list_append mt_append (pv 3) (pa_cons pe_str pa_nil))))) (pss_one (ps_expr (pe_bm PySem.F.plainAttrs_list PySem.F.slot_list_append PySem.F.type_list_append mt_append (pv 3) (pa_cons (pe_ifExp (PW.pt (pw_or (pt_cmpR (k_neD K rfl hu64) (pv 4) (pe_lst pa_nil) (nomark _)) (pw_or1 (pt_cmpR op_eq (pv 6) pe_int (nomark _))))) pe_str pe_str) pa_nil))))))))))
      (pss_one (ps_ret (pe_lc (own := [("_law_place", 5), ("_law_mark", 7)]) rfl sc__law_marks.nd (pi_enumB true (by rfl) Z.m_enumerate (pa_cons (pv 3) pa_nil)) (blkOk_by (own := [("_law_place", 5), ("_law_mark", 7)]) (N := N__law_marks) (sc := defScope s__law_marks) (by decide +kernel)) (fun _ _ _ _ _ => (k_pgtup K rfl rfl (n := 2) (pgs_cons (pg_name (i := 5) sc__law_marks.nd rfl (Or.inl rfl) (Or.inr rfl)) (pgs_cons (pg_name (i := 7) sc__law_marks.nd rfl (Or.inl rfl) (Or.inr rfl)) pgs_nil)))) (fun _ _ _ _ _ => pts_nil) (fun _ _ _ _ _ => (pe_ifExp (pt_cmpR (k_in_seq K rfl) (pv 5) (pv 4) (by with_unfolding_all rfl)) pe_str (pv 7)))))))), by
    rintro ⟨pa, b, reach, many⟩ m ⟨⟨o0, hm, hp0⟩, hb, hmany⟩
    dsimp only at hm hp0 hb hmany ⊢
    refine q_tup00 fun A B nA nB ne => ?_
    have pA : pa ≠ A := fun e => by rw [e, nA] at hm; cases hm
    have pB : pa ≠ B := fun e => by rw [e, nB] at hm; cases hm
    refine q_for (ei_rng0 (n := many) (by walk_at "ev") rfl (by omega)) (fun i r' m' => ∃ o wd st, PotO (b + i) o ∧ Gen reach wd st ∧ wd.length = i ∧ m' = mu (mu (mu m pa o) A (.lst (wd.map encK1))) B (.lst (st.map fun n => .int ((n : Nat) : Int))) ∧ ∃ o1 o2 o3, r' = [some (.ref pa), some (.int (reach : Nat)), some (.int (many : Nat)), some (.ref A), some (.ref B), o1, o2, o3]) ⟨o0, [], [], hp0, .nil, rfl, by rw [mu_eta hm]; rfl, _, _, _, rfl⟩ (fun _ _ _ _ => trivial) ?_ ?_
    · rintro i d r' m' hd ⟨o, wd, st, hp, hg, hwl, rfl, o1, o2, o3, rfl⟩
      obtain ⟨j, hj, rfl⟩ := getEnc hd
      have hi : i < many := by
        have := (List.getElem?_eq_some_iff.mp hj).1
        simpa using this
      have ej : j = i := by
        rw [List.getElem?_range hi] at hj
        exact (Option.some.inj hj).symm
      subst ej
      refine ⟨_, _, ga_name, ?_⟩
      refine q_asgX (ex_take (pa := pa) (o := o) (b := b + j) 6 (ea_cons (by walk_at "ev") (ea_cons ev_ci ea_nil)) rfl (by rw [mu_ne pB, mu_ne pA, mu_same]) hp (by omega) (by decide) (by decide)) ?_
      rintro d m2 ⟨v, o', hv, rfl, rfl, hp'⟩
      have em : mu (mu (mu (mu m pa o) A (.lst (wd.map encK1))) B (.lst (st.map fun n => .int ((n : Nat) : Int)))) pa o' = mu (mu (mu m pa o') A (.lst (wd.map encK1))) B (.lst (st.map fun n => .int ((n : Nat) : Int))) := by
        rw [mu_comm (Ne.symm pB), mu_comm (Ne.symm pA), mu_mu]
      rw [em]
      have sl := gen_len hg
      have gB : ∀ X Y Z, mu (mu (mu m pa X) A Y) B Z B = some Z := fun X Y Z => mu_same
      have gA : ∀ X Y Z, mu (mu (mu m pa X) A Y) B Z A = some Y := fun X Y Z => by rw [mu_ne ne, mu_same]
      have appA : ∀ (k : Mk) (st' : List Nat) (r3 : Ro) (nx : Ro → Mp → Prop) (rt : Dt → Mp → Prop), r3[3]? = some (some (.ref A)) → nx r3 (mu (mu (mu m pa o') A (.lst ((wd ++ [k]).map encK1))) B (.lst (st'.map fun n => .int ((n : Nat) : Int)))) → ∀ (te : TE), Ev te r3 (mu (mu (mu m pa o') A (.lst (wd.map encK1))) B (.lst (st'.map fun n => .int ((n : Nat) : Int)))) (.str (mkS k)) →
          St (tDrop (tBM K "list" rAppend (tVar 3) (tCons te tNil))) nx rt r3 (mu (mu (mu m pa o') A (.lst (wd.map encK1))) B (.lst (st'.map fun n => .int ((n : Nat) : Int)))) := by
        intro k st' r3 nx rt h3 hnx te hte
        refine s_app (a := A) (ds := wd.map encK1) (ev_var h3) (gA _ _ _) hte (by rw [List.length_map]; omega) ?_
        rw [mu_comm (Ne.symm ne), mu_mu]
        rw [List.map_append] at hnx
        exact hnx
      have bs : b + j + 1 = b + (j + 1) := by omega
      have dw : ∀ c : Nat, decide (((v : Nat) : Int) = ((c : Nat) : Int)) = decide (v = c) := fun c => decide_eq_decide.mpr ⟨fun h => by omega, fun h => by rw [h]⟩
      -- what stands in no pair
      have rest : ∀ (nx : Ro → Mp → Prop) (rt : Dt → Mp → Prop) (r3 : Ro), r3[3]? = some (some (.ref A)) → r3[4]? = some (some (.ref B)) → r3[6]? = some (some (.int ((v : Nat) : Int))) → r3[5]? = some (some (.int ((j : Nat) : Int))) →
          (∀ wd' st', Gen reach wd' st' → wd'.length = j + 1 → nx r3 (mu (mu (mu m pa o') A (.lst (wd'.map encK1))) B (.lst (st'.map fun n => .int ((n : Nat) : Int))))) →
          St (tIfS (tOr (tTest (tOp rEq (tVar 6) (tC (.int 3)))) (tAnd (tTest (tOp rEq (tVar 6) (tC (.int 4)))) (tTest (tOp (rEqD K) (tVar 4) (tLst tNil)))))
            (tSeq (tDrop (tBM K "list" rAppend (tVar 4) (tCons (tVar 5) tNil))) (tDrop (tBM K "list" rAppend (tVar 3) (tCons (tC (.str "t")) tNil))))
            (tDrop (tBM K "list" rAppend (tVar 3) (tCons (tIf (tOr (tTest (tOp (rNeD K) (tVar 4) (tLst tNil))) (tTest (tOp rEq (tVar 6) (tC (.int 5))))) (tC (.str "d")) (tC (.str "o"))) tNil)))) nx rt r3
            (mu (mu (mu m pa o') A (.lst (wd.map encK1))) B (.lst (st.map fun n => .int ((n : Nat) : Int)))) := by
        intro nx rt r3 h3 h4 h6 h5 hnx
        refine s_if (et_or (et_test (ev_op (ev_var h6) ev_ci op_eqI)) fun _ => et_and (et_test (ev_op (ev_var h6) ev_ci op_eqI)) fun _ => et_test (ev_eqNil (a := B) (ns := st) (ev_var h4) (gB _ _ _))) (fun _ => ?_) fun hb => ?_
        · refine q_seq (s_app (a := B) (ds := st.map fun n => .int ((n : Nat) : Int)) (ev_var h4) (gB _ _ _) (ev_var h5) (by rw [List.length_map]; omega) ?_)
          rw [mu_mu]
          have e2 : (st.map fun n => Dt.int ((n : Nat) : Int)) ++ [.int ((j : Nat) : Int)] = (st ++ [wd.length]).map fun n => Dt.int ((n : Nat) : Int) := by rw [List.map_append, hwl]; rfl
          rw [e2]
          exact appA .t _ r3 _ _ h3 (hnx _ _ (.t hg) (by simp [hwl])) _ ev_cs
        · by_cases hd : st ≠ [] ∨ v = 5
          · have key := appA .d st r3 nx rt h3 (hnx _ _ (.d hg) (by simp [hwl])) (tIf (tOr (tTest (tOp (rNeD K) (tVar 4) (tLst tNil))) (tTest (tOp rEq (tVar 6) (tC (.int 5))))) (tC (.str "d")) (tC (.str "o"))) (ev_if (b := true) (EvT.is (et_or (et_test (ev_neNil (a := B) (ns := st) (ev_var h4) (gB _ _ _))) fun _ => et_test (ev_op (ev_var h6) ev_ci op_eqI)) (by
              rcases hd with h | h
              · cases st with
                | nil => exact absurd rfl h
                | cons => rfl
              · subst h
                simp)) (fun _ => ev_cs) fun h => nomatch h)
            exact key
          · have h1 : st = [] := Classical.byContradiction fun h => hd (.inl h)
            have h2 : ¬ v = 5 := fun h => hd (.inr h)
            subst h1
            exact appA .o [] r3 nx rt h3 (hnx _ _ (.o hg) (by simp [hwl])) _ (ev_if (b := false) (EvT.is (et_or (et_test (ev_neNil (a := B) (ns := []) (ev_var h4) (gB _ _ _))) fun _ => et_test (ev_op (ev_var h6) ev_ci op_eqI)) (by
              have := dw 5
              simp only [List.isEmpty_nil, Bool.not_true, Bool.false_or]
              exact this.trans (decide_eq_false h2))) (fun h => nomatch h) fun _ => ev_cs)
      have fin1 : ∀ wd' st', Gen reach wd' st' → wd'.length = j + 1 → Wk (fun m' => ∃ o wd st, PotO (b + (j + 1)) o ∧ Gen reach wd st ∧ wd.length = j + 1 ∧ m' = mu (mu (mu m pa o) A (.lst (wd.map encK1))) B (.lst (st.map fun n => .int ((n : Nat) : Int))) ∧ ∃ q1 q2 q3, ([some (Dt.ref pa), some (.int (reach : Nat)), some (.int (many : Nat)), some (.ref A), some (.ref B), some (.int ((j : Nat) : Int)), some (.int ((v : Nat) : Int)), o3] : Ro) = [some (.ref pa), some (.int (reach : Nat)), some (.int (many : Nat)), some (.ref A), some (.ref B), q1, q2, q3]) (mu (mu (mu m pa o') A (.lst (wd'.map encK1))) B (.lst (st'.map fun n => .int ((n : Nat) : Int)))) := fun wd' st' g1 g2 => Wk.of ⟨o', wd', st', by rw [← bs]; exact hp', g1, g2, rfl, _, _, _, rfl⟩
      by_cases hst : st = []
      · subst hst
        refine s_if (EvT.is (b' := false) (et_and (et_test (ev_neNil (ns := []) (a := B) (by walk_at "ev") (gB _ _ _))) (b := false) fun h => nomatch h) rfl) (fun h => nomatch h) fun _ => ?_
        exact rest _ _ _ rfl rfl rfl rfl fun wd' st' g1 g2 => fin1 wd' st' g1 g2
      · obtain ⟨st0, p, rfl⟩ : ∃ st0 p, st = st0 ++ [p] := ⟨st.dropLast, st.getLast hst, (List.dropLast_concat_getLast hst).symm⟩
        have em2 : (!(st0 ++ [p]).isEmpty) = true := by simp
        refine s_if (et_and (et_test (ev_neNil (ns := st0 ++ [p]) (a := B) (by walk_at "ev") (gB _ _ _))) fun _ => et_and (et_test (ev_op (by walk_at "ev") (by walk_at "ev") op_I0b)) fun _ => et_test (ev_op (ev_op (ev_op (by walk_at "ev") (ev_op (by walk_at "ev") (ev_neg ev_ci) (op_ixL1 (enc := fun n : Nat => Dt.int ((n : Nat) : Int)) (xs := st0) (v := p) (a := B) (gB _ _ _))) op_I0i) (by walk_at "ev") op_I0i) (by walk_at "ev") op_I0b)) (fun hb => ?_) fun _ => rest _ _ _ rfl rfl rfl rfl fun wd' st' g1 g2 => fin1 wd' st' g1 g2
        simp only [Bool.and_eq_true, decide_eq_true_eq] at hb
        refine q_seq (s_pop (a := B) (ds := st0.map fun n => .int ((n : Nat) : Int)) (d := .int ((p : Nat) : Int)) (by walk_at "ev") (by rw [mu_same, List.map_append]; rfl) ?_)
        rw [mu_mu]
        exact appA .u st0 _ _ _ rfl (fin1 _ _ (.u hg (by omega)) (by simp [hwl])) _ ev_cs
    · rintro r' m' ⟨o, wd, st, hp, hg, hwl, rfl, o1, o2, o3, rfl⟩
      have hwl2 : wd.length = many := by rw [hwl]; simp
      have hp2 : PotO (b + many) o := by
        have e : ((List.range many).map fun n => Dt.int ((n : Nat) : Int)).length = many := by simp
        rw [e] at hp
        exact hp
      have gB : mu (mu (mu m pa o) A (.lst (wd.map encK1))) B (.lst (st.map fun n => .int ((n : Nat) : Int))) B = some (.lst (st.map fun n => .int ((n : Nat) : Int))) := mu_same
      have gA : mu (mu (mu m pa o) A (.lst (wd.map encK1))) B (.lst (st.map fun n => .int ((n : Nat) : Int))) A = some (.lst (wd.map encK1)) := by rw [mu_ne ne, mu_same]
      refine s_retN (o := .lst ((fixW wd st).map encK1)) (EvN.is (en_lc (wk := true) (xs := wd.zipIdx) (enc := fun q : Mk × Nat => Dt.tup [.int ((q.2 : Nat) : Int), encK1 q.1]) (ei_enumL (a := A) (ys := wd) (enc := encK1) (ea_cons (by walk_at "ev") ea_nil) gA) (fun m' l => l _ _ gA) (fun _ => true) (fun q => encK1 (if q.2 ∈ st then .d else q.1)) (fun q hq => ⟨_, _, by decide, ga_tup rfl (gas_cons ga_name (gas_cons ga_name gas_nil)), et_yes, fun _ => ev_if (b := decide (q.2 ∈ st)) (et_test (ev_op (by walk_at "ev") (by walk_at "ev") (op_inLN gB))) (fun h => Ev.is ev_cs ?_) fun h => Ev.is (by walk_at "ev") ?_⟩) (by simp; omega)) (by rw [filter_tt]; unfold fixW; rw [List.map_map]; rfl)) fun L nL => ?_
      · rw [if_pos (of_decide_eq_true h)]; rfl
      · rw [if_neg (of_decide_eq_false h)]
      · have nLA : L ≠ A := fun e => by rw [e, gA] at nL; cases nL
        have nLB : L ≠ B := fun e => by rw [e, gB] at nL; cases nL
        have nLp : L ≠ pa := fun e => by rw [e, mu_ne pB, mu_ne pA, mu_same] at nL; cases nL
        have nLm : m L = none := by rw [mu_ne nLB, mu_ne nLA, mu_ne nLp] at nL; exact nL
        refine Wk.mk (m := mu (mu m pa o) L (.lst ((fixW wd st).map encK1))) ?_ ⟨wd, st, o, L, hg, hwl2, hp2, nLm, rfl, rfl⟩
        refine MLe.both ?_
        refine MLe.mu (MLe.new ?_) ?_
        · rw [mu_ne (Ne.symm pA)]; exact nA
        · rw [mu_ne (Ne.symm pB)]; exact nB⟩
end
end TB
set_option Elab.async false
set_option linter.all false
set_option autoImplicit false
/-! the drawn day: plain lemmas. -/
namespace TB
open PySem L2
def restEv (resting : List Str) (found : Sheet) (e : List Str) : Sheet := if (e.drop 1).any (fun b => decide (b ∈ resting)) = true then found ++ (e.drop 1).map (fun b => [sDrop, b]) else found ++ [e]
def restSheet (resting start : List Str) (sheet : Sheet) : Sheet := sheet.foldl (restEv resting) [] ++ (resting.filter fun b => decide (b ∈ start) && !decide ([sDrop, b] ∈ sheet.foldl (restEv resting) [])).map (fun b => [sDrop, b])
def finalSheet (resting start : List Str) (ws : List Mk) : Sheet := sortE (restSheet resting start (sortE (lawSheet start ws)))
theorem zipIdx_at {α : Type} {l : List α} {q : α × Nat} (h : q ∈ l.zipIdx) : q.2 < l.length ∧ l[q.2]? = some q.1 := by
  have := List.mem_zipIdx_iff_getElem?.mp h
  exact ⟨(List.getElem?_eq_some_iff.mp this).1, this⟩
/-! ### the drawn marks -/
/-- a word run from a stack to a stack -/
def runTo (reach : Nat) : List Mk → Nat → List Nat → List Nat → Prop
  | [], _, st, e => st = e
  | .t :: ws, i, st, e => runTo reach ws (i + 1) (i :: st) e
  | .u :: ws, i, st, e => ∃ p st', st = p :: st' ∧ i - p - 1 ≤ reach ∧ runTo reach ws (i + 1) st' e
  | .d :: ws, i, st, e => runTo reach ws (i + 1) st e
  | .o :: ws, i, st, e => st = [] ∧ runTo reach ws (i + 1) st e
theorem run_ok {reach : Nat} : ∀ {ws : List Mk} {i : Nat} {st : List Nat}, runTo reach ws i st [] → okRun reach ws i st
  | [], _, _, h => h
  | .t :: ws, i, st, h => run_ok (ws := ws) h
  | .u :: ws, i, st, h => by
    obtain ⟨p, st', rfl, h1, h2⟩ := h
    exact ⟨h1, run_ok h2⟩
  | .d :: ws, i, st, h => run_ok (ws := ws) h
  | .o :: ws, i, st, h => ⟨h.1, run_ok h.2⟩
theorem run_app {reach : Nat} {vs : List Mk} {e : List Nat} : ∀ {ws : List Mk} {i : Nat} {st m : List Nat}, runTo reach ws i st m → runTo reach vs (i + ws.length) m e → runTo reach (ws ++ vs) i st e
  | [], i, st, m, h, k => by
    have h : st = m := h
    subst h
    exact k
  | .t :: ws, i, st, m, h, k => run_app (ws := ws) h (by rw [List.length_cons] at k; rw [show i + 1 + ws.length = i + (ws.length + 1) from by omega]; exact k)
  | .u :: ws, i, st, m, h, k => by
    obtain ⟨p, st', rfl, h1, h2⟩ := h
    exact ⟨p, st', rfl, h1, run_app h2 (by rw [List.length_cons] at k; rw [show i + 1 + ws.length = i + (ws.length + 1) from by omega]; exact k)⟩
  | .d :: ws, i, st, m, h, k => run_app (ws := ws) h (by rw [List.length_cons] at k; rw [show i + 1 + ws.length = i + (ws.length + 1) from by omega]; exact k)
  | .o :: ws, i, st, m, h, k => ⟨h.1, run_app h.2 (by rw [List.length_cons] at k; rw [show i + 1 + ws.length = i + (ws.length + 1) from by omega]; exact k)⟩
theorem gen_lt {reach : Nat} {w : List Mk} {st : List Nat} (h : Gen reach w st) : ∀ x ∈ st, x < w.length := by
  induction h with
  | nil => exact fun x h => nomatch h
  | u _ _ ih =>
      intro x hx
      have := ih x (List.mem_append_left _ hx)
      rw [List.length_append]; omega
  | t _ ih =>
      intro x hx
      rw [List.length_append, List.length_singleton]
      rcases List.mem_append.mp hx with h | h
      · have := ih x h; omega
      · have := List.mem_singleton.mp h; omega
  | d _ ih =>
      intro x hx
      have := ih x hx
      rw [List.length_append]; omega
  | o _ ih => exact fun x h => nomatch h
theorem fix_len (w : List Mk) (F : List Nat) : (fixW w F).length = w.length := by simp [fixW]
theorem fix_snoc (w : List Mk) (F : List Nat) (k : Mk) : fixW (w ++ [k]) F = fixW w F ++ [if w.length ∈ F then .d else k] := by
  unfold fixW
  rw [List.zipIdx_append, List.map_append]
  simp
theorem fix_new (w : List Mk) (F : List Nat) {x : Nat} (h : w.length ≤ x) : fixW w (F ++ [x]) = fixW w F := by
  unfold fixW
  refine List.map_congr_left fun q hq => ?_
  have := (zipIdx_at hq).1
  have e : (q.2 ∈ F ++ [x]) = (q.2 ∈ F) := by
    rw [List.mem_append, List.mem_singleton]
    refine propext ⟨fun h => h.elim id fun h => by omega, .inl⟩
  simp only [e]
theorem gen_run {reach : Nat} {w : List Mk} {st : List Nat} (h : Gen reach w st) : ∀ F R, st = F ++ R → runTo reach (fixW w F) 0 [] R.reverse := by
  induction h with
  | nil =>
      intro F R e
      obtain ⟨rfl, rfl⟩ := List.append_eq_nil_iff.mp e.symm
      rfl
  | @u w st p hg hr ih =>
      intro F R e
      have lt := gen_lt hg
      have nF : w.length ∉ F := fun h => by
        have := lt w.length (List.mem_append_left _ (by rw [e]; exact List.mem_append_left _ h))
        omega
      rw [fix_snoc, if_neg nF]
      have := ih F (R ++ [p]) (by rw [e, List.append_assoc])
      rw [List.reverse_append] at this
      refine run_app this ⟨p, R.reverse, rfl, ?_, rfl⟩
      rw [fix_len]; omega
  | @t w st hg ih =>
      intro F R e
      have lt := gen_lt hg
      rcases List.eq_nil_or_concat R with rfl | ⟨R', x, rfl⟩
      · rw [List.append_nil] at e
        subst e
        rw [fix_snoc, if_pos (by simp), fix_new _ _ (Nat.le_refl _)]
        exact run_app (ih st [] (by simp)) rfl
      · rw [List.concat_eq_append] at e ⊢
        rw [← List.append_assoc] at e
        obtain ⟨e1, e2⟩ := List.append_inj' e rfl
        have e2 : w.length = x := by simpa using e2
        have nF : w.length ∉ F := fun h => by
          have := lt w.length (by rw [e1]; exact List.mem_append_left _ h)
          omega
        rw [fix_snoc, if_neg nF]
        refine run_app (ih F R' e1) ?_
        show (0 + (fixW w F).length) :: R'.reverse = (R' ++ [x]).reverse
        rw [fix_len, List.reverse_append]
        simp [e2]
  | @d w st hg ih =>
      intro F R e
      have lt := gen_lt hg
      rw [fix_snoc]
      have : (if w.length ∈ F then Mk.d else Mk.d) = Mk.d := by split <;> rfl
      rw [this]
      exact run_app (ih F R e) rfl
  | @o w hg ih =>
      intro F R e
      obtain ⟨rfl, rfl⟩ := List.append_eq_nil_iff.mp e.symm
      rw [fix_snoc, if_neg (by simp)]
      exact run_app (ih [] [] rfl) ⟨rfl, rfl⟩
theorem gen_ok {reach : Nat} {w : List Mk} {st : List Nat} (h : Gen reach w st) : okRun reach (fixW w st) 0 [] := run_ok (gen_run h st [] (by simp))
/-! ### the sheet of a clean word is sound -/
theorem getD_at {α : Type} [Inhabited α] {l : List α} {i : Nat} {x : α} (h : l[i]? = some x) : l.getD i default = x := by rw [List.getD_eq_getElem?_getD, h]; rfl
theorem idx_at {l : List Str} (nd : l.Nodup) {i : Nat} {x : Str} (h : l[i]? = some x) : l.idxOf x = i := by
  obtain ⟨hi, rfl⟩ := List.getElem?_eq_some_iff.mp h
  have h1 : l.idxOf l[i] < l.length := List.idxOf_lt_length_of_mem (List.getElem_mem _)
  have h2 : l[l.idxOf l[i]] = l[i] := List.getElem_idxOf h1
  exact (List.getElem_inj nd).mp h2
theorem at_idx {l : List Str} {x : Str} (h : x ∈ l) : l[l.idxOf x]? = some x := by
  have h1 : l.idxOf x < l.length := List.idxOf_lt_length_of_mem h
  rw [List.getElem?_eq_getElem h1, List.getElem_idxOf h1]
theorem idx_inj {l : List Str} {x y : Str} (hx : x ∈ l) (hy : y ∈ l) (h : l.idxOf x = l.idxOf y) : x = y := by
  have h1 := at_idx hx
  rw [h, at_idx hy] at h1
  exact (Option.some.inj h1).symm
theorem btw_get {α : Type} {row : List α} {a b : Nat} {x : α} : x ∈ (row.drop (a + 1)).take (b - (a + 1)) ↔ ∃ j, a < j ∧ j < b ∧ row[j]? = some x := by
  rw [List.mem_iff_getElem?]
  constructor
  · rintro ⟨i, hi⟩
    rw [List.getElem?_take] at hi
    split at hi
    · rw [List.getElem?_drop] at hi
      exact ⟨a + 1 + i, by omega, by omega, hi⟩
    · cases hi
  · rintro ⟨j, h1, h2, h3⟩
    refine ⟨j - (a + 1), ?_⟩
    rw [List.getElem?_take, if_pos (by omega), List.getElem?_drop, show a + 1 + (j - (a + 1)) = j from by omega]
    exact h3
theorem mem_between {start : List Str} (nd : start.Nodup) {x y z : Str} : z ∈ between start x y ↔ z ∈ start ∧ min (start.idxOf x) (start.idxOf y) < start.idxOf z ∧ start.idxOf z < max (start.idxOf x) (start.idxOf y) := by
  unfold between
  rw [btw_get]
  constructor
  · rintro ⟨j, h1, h2, h3⟩
    have := idx_at nd h3
    exact ⟨List.mem_of_getElem? h3, by omega, by omega⟩
  · rintro ⟨h1, h2, h3⟩
    exact ⟨_, h2, h3, at_idx h1⟩
theorem between_len (start : List Str) (x y : Str) : (between start x y).length ≤ max (start.idxOf x) (start.idxOf y) - min (start.idxOf x) (start.idxOf y) - 1 := by
  unfold between
  rw [List.length_take]
  omega
theorem names_app (a b : Sheet) : names (a ++ b) = names a ++ names b := List.flatMap_append
structure LInv (reach : Nat) (start : List Str) (i : Nat) (es : Sheet) (st : List Nat) : Prop where
  form : ∀ e ∈ es, isE e
  nd : (names es).Nodup
  lt : ∀ x ∈ names es, x ∈ start ∧ start.idxOf x < i
  stk : ∀ p ∈ st, p < i
  desc : st.Pairwise fun a b => b < a
  off : ∀ x ∈ names es, start.idxOf x ∉ st
  cov : ∀ p ∈ st, ∀ j, p < j → j < i → j ∈ st ∨ ∃ x ∈ names es, start.idxOf x = j
  tch : ∀ x y, [sTouch, x, y] ∈ es → start.idxOf y < start.idxOf x ∧ start.idxOf x - start.idxOf y - 1 ≤ reach ∧ ∀ b ∈ start, start.idxOf y < start.idxOf b → start.idxOf b < start.idxOf x → b ∈ names es
  crs : ∀ x y x' y', [sTouch, x, y] ∈ es → [sTouch, x', y'] ∈ es → ((start.idxOf y < start.idxOf x' ∧ start.idxOf x' < start.idxOf x) ↔ (start.idxOf y < start.idxOf y' ∧ start.idxOf y' < start.idxOf x))
section
variable {reach i : Nat} {start : List Str} {es : Sheet} {st : List Nat} {b : Str}
theorem linv_t (h : LInv reach start i es st) : LInv reach start (i + 1) es (i :: st) where
  form := h.form
  nd := h.nd
  lt := fun x hx => ⟨(h.lt x hx).1, by have := (h.lt x hx).2; omega⟩
  stk := fun p hp => by
    rcases List.mem_cons.mp hp with rfl | hp
    · omega
    · have := h.stk p hp; omega
  desc := List.pairwise_cons.mpr ⟨fun p hp => h.stk p hp, h.desc⟩
  off := fun x hx hm => by
    have := (h.lt x hx).2
    rcases List.mem_cons.mp hm with e | hp
    · omega
    · exact h.off x hx hp
  cov := fun p hp j h1 h2 => by
    by_cases e : j = i
    · exact .inl (by rw [e]; exact List.mem_cons_self)
    · rcases List.mem_cons.mp hp with rfl | hp
      · omega
      · rcases h.cov p hp j h1 (by omega) with h3 | h3
        · exact .inl (List.mem_cons_of_mem _ h3)
        · exact .inr h3
  tch := h.tch
  crs := h.crs
theorem linv_o (h : LInv reach start i es []) : LInv reach start (i + 1) es [] where
  form := h.form
  nd := h.nd
  lt := fun x hx => ⟨(h.lt x hx).1, by have := (h.lt x hx).2; omega⟩
  stk := fun p hp => nomatch hp
  desc := List.Pairwise.nil
  off := fun x hx hm => nomatch hm
  cov := fun p hp => nomatch hp
  tch := h.tch
  crs := h.crs
theorem drop_touch {x y z : Str} (h : [sTouch, x, y] = [sDrop, z]) : False := by simp at h
theorem drop_ne_touch : ¬ (sDrop = sTouch) := by decide +kernel
theorem linv_d (h : LInv reach start i es st) (hb : b ∈ start) (hi : start.idxOf b = i) : LInv reach start (i + 1) (es ++ [[sDrop, b]]) st := by
  have en : names (es ++ [[sDrop, b]]) = names es ++ [b] := by rw [names_app]; rfl
  have nb : b ∉ names es := fun z => by have := (h.lt b z).2; omega
  have old : ∀ {x y}, [sTouch, x, y] ∈ es ++ [[sDrop, b]] → [sTouch, x, y] ∈ es := fun {x y} hm => by
    rcases List.mem_append.mp hm with hm | hm
    · exact hm
    · exact (drop_touch (List.mem_singleton.mp hm)).elim
  refine ⟨fun e he => ?_, ?_, fun x hx => ?_, fun p hp => ?_, h.desc, fun x hx hm => ?_, fun p hp j h1 h2 => ?_, fun x y hm => ?_, fun x y x' y' hm hm' => h.crs x y x' y' (old hm) (old hm')⟩
  · rcases List.mem_append.mp he with he | he
    · exact h.form e he
    · exact .inl ⟨b, List.mem_singleton.mp he⟩
  · rw [en]
    exact List.nodup_append.mpr ⟨h.nd, by simp, fun a ha c hc e => nb (by rw [← List.mem_singleton.mp hc, ← e]; exact ha)⟩
  · rw [en] at hx
    rcases List.mem_append.mp hx with hx | hx
    · exact ⟨(h.lt x hx).1, by have := (h.lt x hx).2; omega⟩
    · rw [List.mem_singleton.mp hx]; exact ⟨hb, by omega⟩
  · have := h.stk p hp; omega
  · rw [en] at hx
    rcases List.mem_append.mp hx with hx | hx
    · exact h.off x hx hm
    · rw [List.mem_singleton.mp hx, hi] at hm
      have := h.stk i hm
      omega
  · rw [en]
    by_cases e : j = i
    · exact .inr ⟨b, by simp, by omega⟩
    · rcases h.cov p hp j h1 (by omega) with h3 | ⟨x, h3, h4⟩
      · exact .inl h3
      · exact .inr ⟨x, List.mem_append_left _ h3, h4⟩
  · rw [en]
    obtain ⟨t1, t2, t3⟩ := h.tch x y (old hm)
    exact ⟨t1, t2, fun c hc h1 h2 => List.mem_append_left _ (t3 c hc h1 h2)⟩
theorem linv_u {p : Nat} {y : Str} (h : LInv reach start i es (p :: st)) (hb : b ∈ start) (hi : start.idxOf b = i) (hy : y ∈ start) (hp : start.idxOf y = p) (hr : i - p - 1 ≤ reach) : LInv reach start (i + 1) (es ++ [[sTouch, b, y]]) st := by
  have en : names (es ++ [[sTouch, b, y]]) = names es ++ [b, y] := by rw [names_app]; rfl
  have nb : b ∉ names es := fun z => by have := (h.lt b z).2; omega
  have ny : y ∉ names es := fun z => h.off y z (by rw [hp]; exact List.mem_cons_self)
  have plt : p < i := h.stk p List.mem_cons_self
  obtain ⟨d1, d2⟩ := List.pairwise_cons.mp h.desc
  have nby : b ≠ y := fun e => by rw [e] at hi; omega
  have old : ∀ {x z}, [sTouch, x, z] ∈ es ++ [[sTouch, b, y]] → [sTouch, x, z] ∈ es ∨ (x = b ∧ z = y) := fun {x z} hm => by
    rcases List.mem_append.mp hm with hm | hm
    · exact .inl hm
    · have := List.mem_singleton.mp hm
      simp at this
      exact .inr this
  have sep : ∀ {x z}, [sTouch, x, z] ∈ es → ¬ (start.idxOf z < p ∧ p < start.idxOf x) := fun {x z} hm hc =>
    ny ((h.tch x z hm).2.2 y hy (by omega) (by omega))
  have inn : ∀ {x z}, [sTouch, x, z] ∈ es → (start.idxOf x < i ∧ start.idxOf x ≠ p) ∧ start.idxOf z < i ∧ start.idxOf z ≠ p := fun {x z} hm => by
    have hx := names_mem (x := x) hm (by simp)
    have hz := names_mem (x := z) hm (by simp)
    refine ⟨⟨(h.lt x hx).2, fun e => h.off x hx (by rw [e]; exact List.mem_cons_self)⟩, (h.lt z hz).2, fun e => h.off z hz (by rw [e]; exact List.mem_cons_self)⟩
  refine ⟨fun e he => ?_, ?_, fun x hx => ?_, fun q hq => ?_, d2, fun x hx hm => ?_, fun q hq j h1 h2 => ?_, fun x z hm => ?_, fun x z x' z' hm hm' => ?_⟩
  · rcases List.mem_append.mp he with he | he
    · exact h.form e he
    · exact .inr ⟨b, y, List.mem_singleton.mp he⟩
  · rw [en]
    refine List.nodup_append.mpr ⟨h.nd, by simp [nby], fun a ha c hc e => ?_⟩
    have : c = b ∨ c = y := by simpa using hc
    rcases this with rfl | rfl
    · exact nb (e ▸ ha)
    · exact ny (e ▸ ha)
  · rw [en] at hx
    rcases List.mem_append.mp hx with hx | hx
    · exact ⟨(h.lt x hx).1, by have := (h.lt x hx).2; omega⟩
    · have : x = b ∨ x = y := by simpa using hx
      rcases this with rfl | rfl
      · exact ⟨hb, by omega⟩
      · exact ⟨hy, by omega⟩
  · have := h.stk q (List.mem_cons_of_mem _ hq); omega
  · rw [en] at hx
    rcases List.mem_append.mp hx with hx | hx
    · exact h.off x hx (List.mem_cons_of_mem _ hm)
    · have : x = b ∨ x = y := by simpa using hx
      rcases this with rfl | rfl
      · have := h.stk _ (List.mem_cons_of_mem _ hm); omega
      · have := d1 _ hm; omega
  · rw [en]
    by_cases e : j = i
    · exact .inr ⟨b, by simp, by omega⟩
    · rcases h.cov q (List.mem_cons_of_mem _ hq) j h1 (by omega) with h3 | ⟨x, h3, h4⟩
      · rcases List.mem_cons.mp h3 with e | h3
        · exact .inr ⟨y, by simp, by omega⟩
        · exact .inl h3
      · exact .inr ⟨x, List.mem_append_left _ h3, h4⟩
  · rw [en]
    rcases old hm with hm | ⟨rfl, rfl⟩
    · obtain ⟨t1, t2, t3⟩ := h.tch x z hm
      exact ⟨t1, t2, fun c hc h1 h2 => List.mem_append_left _ (t3 c hc h1 h2)⟩
    · refine ⟨by omega, by omega, fun c hc h1 h2 => ?_⟩
      rcases h.cov p List.mem_cons_self (start.idxOf c) (by omega) (by omega) with h3 | ⟨x', h3, h4⟩
      · rcases List.mem_cons.mp h3 with e | h3
        · omega
        · have := d1 _ h3; omega
      · have := idx_inj (h.lt x' h3).1 hc h4
        rw [← this]
        exact List.mem_append_left _ h3
  · rcases old hm with h1 | ⟨e1, e2⟩
    · rcases old hm' with h2 | ⟨e3, e4⟩
      · exact h.crs x z x' z' h1 h2
      · rw [e3, e4]
        have := sep h1
        have := inn h1
        omega
    · rw [e1, e2]
      rcases old hm' with h2 | ⟨e3, e4⟩
      · have := sep h2
        have := inn h2
        have := (h.tch _ _ h2).1
        omega
      · rw [e3, e4]; omega
end
theorem law_inv {reach : Nat} {start : List Str} (nd : start.Nodup) : ∀ (ws : List Mk) (i : Nat) (st : List Nat) (es : Sheet), i + ws.length = start.length → okRun reach ws i st → LInv reach start i es st →
    LInv reach start start.length (((start.drop i).zip ws).foldl mkStep (es, st.reverse.map fun p => start.getD p default)).1 []
  | [], i, st, es, hl, hr, h => by
    have hr : st = [] := hr
    subst hr
    have : i = start.length := by simpa using hl
    subst this
    simp
    exact h
  | k :: ws, i, st, es, hl, hr, h => by
    rw [List.length_cons] at hl
    have hi : i < start.length := by omega
    have hd : start.drop i = start[i] :: start.drop (i + 1) := List.drop_eq_getElem_cons hi
    rw [hd, List.zip_cons_cons, List.foldl_cons]
    have hb : start[i] ∈ start := List.getElem_mem _
    have hx : start.idxOf start[i] = i := idx_at nd (List.getElem?_eq_getElem hi)
    cases k with
    | t =>
      have := law_inv nd ws (i + 1) (i :: st) es (by omega) hr (linv_t h)
      have e : (i :: st).reverse.map (fun p => start.getD p default) = (st.reverse.map fun p => start.getD p default) ++ [start[i]] := by
        rw [List.reverse_cons, List.map_append, List.map_singleton, getD_at (List.getElem?_eq_getElem hi)]
      rw [e] at this
      exact this
    | d => exact law_inv nd ws (i + 1) st _ (by omega) hr (linv_d h hb hx)
    | o =>
      obtain ⟨rfl, hr⟩ := hr
      exact law_inv nd ws (i + 1) [] es (by omega) hr (linv_o h)
    | u =>
      cases st with
      | nil => exact hr.elim
      | cons p st =>
        obtain ⟨h1, h2⟩ := hr
        have plt := h.stk p List.mem_cons_self
        have hpl : p < start.length := by omega
        have ep : start.getD p default = start[p] := getD_at (List.getElem?_eq_getElem hpl)
        have := law_inv nd ws (i + 1) st _ (by omega) h2 (linv_u (b := start[i]) (y := start[p]) h hb hx (List.getElem_mem _) (idx_at nd (List.getElem?_eq_getElem hpl)) h1)
        have e : ((p :: st).reverse.map fun p => start.getD p default) = (st.reverse.map fun p => start.getD p default) ++ [start[p]] := by
          rw [List.reverse_cons, List.map_append, List.map_singleton, ep]
        rw [e]
        unfold mkStep
        dsimp only
        rw [List.dropLast_concat]
        have : ((st.reverse.map fun p => start.getD p default) ++ [start[p]]).getLastD default = start[p] := by simp [List.getLastD_eq_getLast?]
        rw [this]
        assumption
theorem linv_nil {reach : Nat} {start : List Str} : LInv reach start 0 [] [] where
  form := fun _ h => nomatch h
  nd := List.nodup_nil
  lt := fun _ h => nomatch h
  stk := fun _ h => nomatch h
  desc := List.Pairwise.nil
  off := fun _ h => nomatch h
  cov := fun _ h => nomatch h
  tch := fun _ _ h => nomatch h
  crs := fun _ _ _ _ h => nomatch h
/-- a sheet, whatever its length -/
structure Snd (start : List Str) (reach : Nat) (es : Sheet) : Prop where
  form : ∀ e ∈ es, isE e
  nd : (names es).Nodup
  inn : ∀ x ∈ names es, x ∈ start
  tch : ∀ x y, [sTouch, x, y] ∈ es → start.idxOf y < start.idxOf x ∧ (between start x y).length ≤ reach ∧ ∀ b ∈ between start x y, b ∈ names es
  crs : ∀ x y x' y', [sTouch, x, y] ∈ es → [sTouch, x', y'] ∈ es → (x' ∈ between start x y ↔ y' ∈ between start x y)
theorem LInv.snd {reach : Nat} {start : List Str} {es : Sheet} (nd : start.Nodup) (h : LInv reach start start.length es []) : Snd start reach es := by
  refine ⟨h.form, h.nd, fun x hx => (h.lt x hx).1, fun x y hm => ?_, fun x y x' y' hm hm' => ?_⟩
  · obtain ⟨t1, t2, t3⟩ := h.tch x y hm
    refine ⟨t1, ?_, fun b hb => ?_⟩
    · have := between_len start x y
      omega
    · obtain ⟨b1, b2, b3⟩ := (mem_between nd).mp hb
      exact t3 b b1 (by omega) (by omega)
  · have t1 := (h.tch x y hm).1
    have hx' := (h.lt x' (names_mem hm' (by simp))).1
    have hy' := (h.lt y' (names_mem hm' (by simp))).1
    rw [mem_between nd, mem_between nd]
    have := h.crs x y x' y' hm hm'
    have e1 : min (start.idxOf x) (start.idxOf y) = start.idxOf y := by omega
    have e2 : max (start.idxOf x) (start.idxOf y) = start.idxOf x := by omega
    rw [e1, e2, this]
    exact ⟨fun h => ⟨hy', h.2⟩, fun h => ⟨hx', h.2⟩⟩
theorem names_perm {a b : Sheet} (h : a.Perm b) : (names a).Perm (names b) := h.flatMap_right _
theorem Snd.perm {start : List Str} {reach : Nat} {a b : Sheet} (h : Snd start reach a) (p : a.Perm b) : Snd start reach b := by
  have pn := names_perm p
  refine ⟨fun e he => h.form e (p.mem_iff.mpr he), pn.nodup_iff.mp h.nd, fun x hx => h.inn x (pn.mem_iff.mpr hx), fun x y hm => ?_, fun x y x' y' hm hm' => h.crs x y x' y' (p.mem_iff.mpr hm) (p.mem_iff.mpr hm')⟩
  obtain ⟨t1, t2, t3⟩ := h.tch x y (p.mem_iff.mpr hm)
  exact ⟨t1, t2, fun b hb => pn.mem_iff.mp (t3 b hb)⟩
theorem sub_len {a b : List Str} (nd : a.Nodup) (h : ∀ x ∈ a, x ∈ b) : a.length ≤ b.length := List.Nodup.length_le_of_subset nd h
theorem len_names {es : Sheet} (h : ∀ e ∈ es, isE e) : List.length es ≤ (names es).length := by
  induction es with
  | nil => exact Nat.zero_le _
  | cons e es ih =>
    have h1 := ih fun x hx => h x (List.mem_cons_of_mem _ hx)
    have e1 : names (e :: es) = e.drop 1 ++ names es := rfl
    rw [e1, List.length_append, List.length_cons]
    have : 1 ≤ (e.drop 1).length := by rcases h e List.mem_cons_self with ⟨x, rfl⟩ | ⟨x, y, rfl⟩ <;> simp
    omega
theorem Snd.sound {start : List Str} {reach : Nat} {es : Sheet} (h : Snd start reach es) (hs : start.length ≤ 500) : SoundS start reach es ∧ (names es).length ≤ start.length := by
  have h1 := sub_len h.nd h.inn
  have h2 := len_names h.form
  exact ⟨⟨h.form, h.nd, h.inn, h.tch, h.crs, by omega⟩, h1⟩
/-! the resting drop out -/
theorem names_rest {resting : List Str} : ∀ (l f : Sheet), names (l.foldl (restEv resting) f) = names f ++ names l
  | [], f => by simp [names]
  | e :: l, f => by
    rw [List.foldl_cons, names_rest l]
    have e1 : names (e :: l) = e.drop 1 ++ names l := rfl
    have e2 : names (restEv resting f e) = names f ++ e.drop 1 := by
      unfold restEv
      split
      · rw [names_app]
        congr 1
        unfold names
        rw [List.flatMap_map]
        simp
      · rw [names_app]
        congr 1
        simp [names]
    rw [e1, e2, List.append_assoc]
theorem rest_ev {resting : List Str} : ∀ (l f : Sheet), (∀ e ∈ l, isE e) → ∀ e ∈ l.foldl (restEv resting) f, e ∈ f ∨ (e ∈ l ∧ ∀ b ∈ e.drop 1, b ∉ resting) ∨ ∃ b, e = [sDrop, b] ∧ ∃ e' ∈ l, b ∈ e'.drop 1
  | [], f, _, e, h => .inl h
  | e0 :: l, f, hf, e, h => by
    rcases rest_ev l _ (fun x hx => hf x (List.mem_cons_of_mem _ hx)) e h with h | ⟨h, h2⟩ | ⟨b, h, e', h1, h2⟩
    · unfold restEv at h
      split at h
      · rcases List.mem_append.mp h with h | h
        · exact .inl h
        · obtain ⟨b, hb, rfl⟩ := List.mem_map.mp h
          exact .inr (.inr ⟨b, rfl, e0, List.mem_cons_self, hb⟩)
      · rename_i hc
        rcases List.mem_append.mp h with h | h
        · exact .inl h
        · rw [List.mem_singleton.mp h]
          refine .inr (.inl ⟨List.mem_cons_self, fun b hb hr => hc (List.any_eq_true.mpr ⟨b, hb, by simpa using hr⟩)⟩)
    · exact .inr (.inl ⟨List.mem_cons_of_mem _ h, h2⟩)
    · exact .inr (.inr ⟨b, h, e', List.mem_cons_of_mem _ h1, h2⟩)
theorem rest_snd {reach : Nat} {start resting : List Str} {es : Sheet} (h : Snd start reach es) (nr : resting.Nodup) : Snd start reach (restSheet resting start es) ∧ (∀ e ∈ restSheet resting start es, (∃ b, e = [sDrop, b]) ∨ ∀ b ∈ e.drop 1, b ∉ resting) ∧ ∀ b ∈ resting, b ∈ start → [sDrop, b] ∈ restSheet resting start es := by
  have e0 : restSheet resting start es = es.foldl (restEv resting) [] ++ (resting.filter fun b => decide (b ∈ start) && !decide ([sDrop, b] ∈ es.foldl (restEv resting) [])).map (fun b => [sDrop, b]) := rfl
  have hn : names (es.foldl (restEv resting) []) = names es := names_rest es []
  have hev := rest_ev (resting := resting) es [] h.form
  generalize es.foldl (restEv resting) [] = F at e0 hn hev
  have kind : ∀ e ∈ F, (e ∈ es ∧ ∀ b ∈ e.drop 1, b ∉ resting) ∨ ∃ b, e = [sDrop, b] := fun e he => by
    rcases hev e he with h | h | ⟨b, h, _⟩
    · exact nomatch h
    · exact .inl h
    · exact .inr ⟨b, h⟩
  have nx : names ((resting.filter fun b => decide (b ∈ start) && !decide ([sDrop, b] ∈ F)).map fun b => [sDrop, b]) = resting.filter fun b => decide (b ∈ start) && !decide ([sDrop, b] ∈ F) := by
    unfold names
    rw [List.flatMap_map]
    simp
  have en : names (restSheet resting start es) = names es ++ resting.filter fun b => decide (b ∈ start) && !decide ([sDrop, b] ∈ F) := by rw [e0, names_app, hn, nx]
  have told : ∀ {x y}, [sTouch, x, y] ∈ restSheet resting start es → [sTouch, x, y] ∈ es := fun {x y} hm => by
    rw [e0] at hm
    rcases List.mem_append.mp hm with hm | hm
    · rcases kind _ hm with h | ⟨b, h⟩
      · exact h.1
      · exact (drop_touch h).elim
    · obtain ⟨b, _, h⟩ := List.mem_map.mp hm
      exact (drop_touch h.symm).elim
  refine ⟨⟨fun e he => ?_, ?_, fun x hx => ?_, fun x y hm => ?_, fun x y x' y' hm hm' => h.crs x y x' y' (told hm) (told hm')⟩, fun e he => ?_, fun b hb hs => ?_⟩
  · rw [e0] at he
    rcases List.mem_append.mp he with he | he
    · rcases kind e he with h' | ⟨b, h'⟩
      · exact h.form e h'.1
      · exact .inl ⟨b, h'⟩
    · obtain ⟨b, _, h'⟩ := List.mem_map.mp he
      exact .inl ⟨b, h'.symm⟩
  · rw [en]
    refine List.nodup_append.mpr ⟨h.nd, nr.sublist List.filter_sublist, fun a ha c hc e => ?_⟩
    subst e
    obtain ⟨c1, c2⟩ := List.mem_filter.mp hc
    rw [Bool.and_eq_true] at c2
    have c3 : [sDrop, a] ∉ F := by simpa using c2.2
    rw [← hn] at ha
    obtain ⟨e, he, hae⟩ := List.mem_flatMap.mp ha
    rcases kind e he with ⟨_, h'⟩ | ⟨b, rfl⟩
    · exact h' a hae c1
    · have : a = b := by simpa using hae
      exact c3 (this ▸ he)
  · rw [en] at hx
    rcases List.mem_append.mp hx with hx | hx
    · exact h.inn x hx
    · have := (List.mem_filter.mp hx).2
      rw [Bool.and_eq_true] at this
      exact of_decide_eq_true this.1
  · rw [en]
    obtain ⟨t1, t2, t3⟩ := h.tch x y (told hm)
    exact ⟨t1, t2, fun b hb => List.mem_append_left _ (t3 b hb)⟩
  · rw [e0] at he
    rcases List.mem_append.mp he with he | he
    · rcases kind e he with h' | h'
      · exact .inr h'.2
      · exact .inl h'
    · obtain ⟨b, _, h'⟩ := List.mem_map.mp he
      exact .inl ⟨b, h'.symm⟩
  · rw [e0]
    by_cases hc : [sDrop, b] ∈ F
    · exact List.mem_append_left _ hc
    · exact List.mem_append_right _ (List.mem_map.mpr ⟨b, List.mem_filter.mpr ⟨hb, by simp [hs, hc]⟩, rfl⟩)
theorem sortE_perm (es : Sheet) : (sortE es).Perm es := List.mergeSort_perm _ _
theorem law_snd {reach : Nat} {start : List Str} {ws : List Mk} (h : okRun reach ws 0 []) (hl : ws.length = start.length) (nd : start.Nodup) : Snd start reach (lawSheet start ws) := by
  have := law_inv nd ws 0 [] [] (by omega) h linv_nil
  exact this.snd nd
/-- the drawn sheet, whole -/
theorem final_all {reach : Nat} {start resting : List Str} {ws : List Mk} (h : okRun reach ws 0 []) (hl : ws.length = start.length) (nd : start.Nodup) (nr : resting.Nodup) :
    Snd start reach (finalSheet resting start ws) ∧ (∀ e ∈ finalSheet resting start ws, (∃ b, e = [sDrop, b]) ∨ ∀ b ∈ e.drop 1, b ∉ resting) ∧ ∀ b ∈ resting, b ∈ start → [sDrop, b] ∈ finalSheet resting start ws := by
  have h1 := (law_snd h hl nd).perm (sortE_perm _).symm
  obtain ⟨h2, h3, h4⟩ := rest_snd h1 nr
  have p := sortE_perm (restSheet resting start (sortE (lawSheet start ws)))
  exact ⟨h2.perm p.symm, fun e he => h3 e (p.mem_iff.mp he), fun b hb hs => p.mem_iff.mpr (h4 b hb hs)⟩
theorem final_sound {reach : Nat} {start resting : List Str} {ws : List Mk} (h : okRun reach ws 0 []) (hl : ws.length = start.length) (nd : start.Nodup) (nr : resting.Nodup) (hs : start.length ≤ 500) : SoundS start reach (finalSheet resting start ws) ∧ (names (finalSheet resting start ws)).length ≤ start.length := (final_all h hl nd nr).1.sound hs
/-! ### rows behind sheets -/
theorem exch_perm {row : List Str} {i j : Nat} (hi : i < row.length) (hj : j < row.length) : (exch row i j).Perm row := by
  unfold exch
  rw [getD_at (List.getElem?_eq_getElem hi), getD_at (List.getElem?_eq_getElem hj)]
  exact List.set_set_perm hi hj
theorem touches_sub {es : Sheet} : (touchesOf es).Sublist es := List.filter_sublist
theorem names_sub {a b : Sheet} (h : a.Sublist b) : (names a).Sublist (names b) := by
  induction h with
  | slnil => exact .refl _
  | cons e h ih => exact ih.trans (List.sublist_append_right _ _)
  | cons_cons e h ih => exact ih.append_left _
theorem behind_perm {start : List Str} : ∀ (l : Sheet) (row : List Str), (∀ e ∈ l, isE e) → (∀ x ∈ names l, x ∈ start) → (∀ e ∈ l, e.length = 3) → row.length = start.length → (l.foldl (behindStep start) row).Perm row
  | [], _, _, _, _, _ => .refl _
  | e :: l, row, hf, hin, h3, hl => by
    have e1 : names (e :: l) = e.drop 1 ++ names l := rfl
    rw [List.foldl_cons]
    refine (behind_perm l _ (fun x hx => hf x (List.mem_cons_of_mem _ hx)) (fun x hx => hin x (by rw [e1]; exact List.mem_append_right _ hx)) (fun x hx => h3 x (List.mem_cons_of_mem _ hx)) (by rw [behindStep, exch_length]; exact hl)).trans ?_
    have := h3 e List.mem_cons_self
    match e, this with
    | [t, x, y], _ =>
      have hx : x ∈ start := hin x (by rw [e1]; simp)
      have hy : y ∈ start := hin y (by rw [e1]; simp)
      exact exch_perm (by rw [hl]; exact List.idxOf_lt_length_of_mem hx) (by rw [hl]; exact List.idxOf_lt_length_of_mem hy)
theorem set_comm' {α : Type} {l : List α} {i j : Nat} {a b : α} (h : i ≠ j) : (l.set i a).set j b = (l.set j b).set i a := List.set_comm a b h
theorem raced_behind {start : List Str} : ∀ (l : Sheet) (row : List Str), (∀ e ∈ l, e.length = 3) → (names l).Nodup → (∀ x ∈ names l, x ∈ start) → row.length = start.length → (∀ x ∈ names l, row.getD (start.idxOf x) default = start.getD (start.idxOf x) default) →
    l.foldl (racedStep start) row = l.foldl (behindStep start) row
  | [], _, _, _, _, _, _ => rfl
  | e :: l, row, h3, nd, hin, hl, hd => by
    have e1 : names (e :: l) = e.drop 1 ++ names l := rfl
    rw [e1] at nd hin hd
    match e, h3 e List.mem_cons_self with
    | [t, x, y], _ =>
      obtain ⟨n1, n2, n3⟩ := List.nodup_append.mp nd
      have hx : x ∈ start := hin x (by simp)
      have hy : y ∈ start := hin y (by simp)
      have nxy : x ≠ y := by
        have : [x, y].Nodup := n1
        simpa using this
      have ixy : start.idxOf x ≠ start.idxOf y := fun e => nxy (idx_inj hx hy e)
      have es : racedStep start row [t, x, y] = behindStep start row [t, x, y] := by
        have d1 := hd x (by simp)
        have d2 := hd y (by simp)
        unfold racedStep behindStep exch
        show (row.set (start.idxOf y) (start.getD (start.idxOf x) default)).set (start.idxOf x) (start.getD (start.idxOf y) default) = (row.set (start.idxOf x) (row.getD (start.idxOf y) default)).set (start.idxOf y) (row.getD (start.idxOf x) default)
        rw [d1, d2]
        exact set_comm' (Ne.symm ixy)
      rw [List.foldl_cons, List.foldl_cons, es]
      refine raced_behind l _ (fun z hz => h3 z (List.mem_cons_of_mem _ hz)) n2 (fun z hz => hin z (List.mem_append_right _ hz)) (by rw [behindStep, exch_length]; exact hl) fun z hz => ?_
      have hzs : z ∈ start := hin z (List.mem_append_right _ hz)
      have nzx : start.idxOf x ≠ start.idxOf z := fun e => n3 x (by simp) z hz (idx_inj hx hzs e)
      have nzy : start.idxOf y ≠ start.idxOf z := fun e => n3 y (by simp) z hz (idx_inj hy hzs e)
      rw [← hd z (List.mem_append_right _ hz)]
      show (exch row (start.idxOf x) (start.idxOf y)).getD (start.idxOf z) default = _
      unfold exch
      rw [List.getD_eq_getElem?_getD, List.getElem?_set_ne nzy, List.getElem?_set_ne nzx, ← List.getD_eq_getElem?_getD]
theorem touch_len {es : Sheet} (hf : ∀ e ∈ es, isE e) : ∀ e ∈ touchesOf es, e.length = 3 := fun e he => by
  obtain ⟨x, y, rfl, _⟩ := touch_mem hf he
  rfl
theorem raced_eq {reach : Nat} {start : List Str} {es : Sheet} (h : SoundS start reach es) : racedR start es = behindR start es :=
  raced_behind _ _ (touch_len h.form) (h.nd.sublist (names_sub touches_sub)) (fun x hx => h.inn x ((names_sub touches_sub).subset hx)) rfl fun _ _ => rfl
theorem behindR_perm {reach : Nat} {start : List Str} {es : Sheet} (h : SoundS start reach es) : (behindR start es).Perm start :=
  behind_perm _ _ (fun e he => h.form e (touches_sub.subset he)) (fun x hx => h.inn x ((names_sub touches_sub).subset hx)) (touch_len h.form) rfl
theorem raced_perm {reach : Nat} {start : List Str} {es : Sheet} (h : SoundS start reach es) (nd : start.Nodup) : (racedR start es).Perm start := by
  rw [raced_eq h]
  exact behindR_perm h
theorem lay_cut {α : Type} {s n k : Nat} {row : List α} (hl : row.length = n) (hk : k * s < n) : layR s n k row (cutR s n k row) = row := by
  have h : row.take (k * s) ++ (row.drop (k * s)).take (min (k * s + s) (n - 1) + 1 - k * s) = row.take (min (k * s + s) (n - 1) + 1) := by
    rw [List.take_drop]
    have : k * s + (min (k * s + s) (n - 1) + 1 - k * s) = min (k * s + s) (n - 1) + 1 := by omega
    rw [this]
    have e : row.take (k * s) = (row.take (min (k * s + s) (n - 1) + 1)).take (k * s) := by rw [List.take_take]; congr 1; omega
    rw [e, List.take_append_drop]
  unfold layR cutR
  rw [h, List.take_append_drop]
theorem lay_perm {s n k : Nat} {row so : List Str} (hl : row.length = n) (hk : k * s < n) (h : so.Perm (cutR s n k row)) : (layR s n k row so).Perm row := by
  have e := lay_cut hl hk
  have p : (layR s n k row so).Perm (layR s n k row (cutR s n k row)) := by
    unfold layR
    exact (h.append_left _).append_right _
  rw [e] at p
  exact p
/-- the races of a drawn day, from the last -/
def DrawnK (s r n : Nat) (resting : List Str) : List Nat → List Str → List Sheet → List Str → Prop
  | [], row, shs, row' => shs = [] ∧ row' = row
  | k :: ks, row, shs, row' => ∃ ws shs', okRun r ws 0 [] ∧ ws.length = (cutR s n k row).length ∧ shs = finalSheet resting (cutR s n k row) ws :: shs' ∧ DrawnK s r n resting ks (layR s n k row (racedR (cutR s n k row) (finalSheet resting (cutR s n k row) ws))) shs' row'
theorem drawn_snoc {s r n : Nat} {resting : List Str} {k : Nat} {ws : List Mk} : ∀ {ks : List Nat} {row row' : List Str} {shs : List Sheet}, DrawnK s r n resting ks row shs row' → okRun r ws 0 [] → ws.length = (cutR s n k row').length →
    DrawnK s r n resting (ks ++ [k]) row (shs ++ [finalSheet resting (cutR s n k row') ws]) (layR s n k row' (racedR (cutR s n k row') (finalSheet resting (cutR s n k row') ws)))
  | [], row, row', shs, h, h1, h2 => by
    obtain ⟨rfl, rfl⟩ := h
    exact ⟨ws, [], h1, h2, rfl, rfl, rfl⟩
  | k' :: ks, row, row', shs, h, h1, h2 => by
    obtain ⟨ws', shs', a, b, rfl, c⟩ := h
    exact ⟨ws', _, a, b, rfl, drawn_snoc c h1 h2⟩
end TB
set_option Elab.async false
set_option linter.all false
set_option autoImplicit false
set_option maxRecDepth 100000
set_option maxHeartbeats 4000000
/-! resting_day. -/
namespace TB
open PySem PySem.Spec PyProof.Rows L2 RT
local macro_rules | `(tactic| walk_at "ev1") => `(tactic| first
  | ((with_reducible apply ev_var); rfl)
  | with_reducible exact ev_ci
  | with_reducible exact ev_cs
  | with_reducible exact ev_cb
  | with_reducible exact ev_cn
  | with_reducible apply ev_op
  | with_reducible apply ev_tup
  | with_reducible apply ev_isN
  | with_reducible apply ev_notN
  | with_reducible apply ev_notV
  | with_reducible exact op_I0i
  | with_reducible exact op_I0b
  | with_reducible exact op_eqS
  | with_reducible exact op_eqI
  | with_reducible exact op_neS
  | with_reducible exact op_neI
  | with_reducible exact op_isB
  | with_reducible exact op_inTS
  | with_reducible exact op_niTS
  | with_reducible exact op_inTI
  | with_reducible exact op_niTI
  | with_reducible apply op_ixT
  | with_reducible apply op_catT
  | with_reducible exact ea_nil
  | ((with_reducible show List.length _ ≤ 100000); first | decide | (simp <;> omega))
  | with_reducible apply ea_cons
  | with_reducible apply et_test
  | with_reducible apply et_B
  | with_reducible exact et_yes
  | with_reducible apply et_not
  | with_reducible exact ca_lenT
  | with_reducible exact ca_max
  | with_reducible exact ca_min
  | with_reducible exact eo_none
  | with_reducible apply eo_some
  | with_reducible apply ev_slT)
local macro_rules | `(tactic| walk_at "ev") => `(tactic| repeat' walk_at "ev1")
local macro_rules | `(tactic| walk_at "ev2") => `(tactic| repeat' first
  | walk_at "ev1"
  | (with_reducible apply op_mulN <;> omega)
  | (with_reducible apply op_divN <;> omega)
  | with_reducible apply ev_cbA
  | with_reducible apply ev_chain
  | with_reducible apply ev_if
  | with_reducible apply et_and
  | with_reducible apply et_or
  | with_reducible apply ev_andV
  | with_reducible apply ev_orV)

section
variable {P : Program} {w : World} {K : PySem.W.Frag} {mg : Str → Option Value} {base : Heap}
theorem cutR_nodup {s n k : Nat} {row : List Str} (h : row.Nodup) : (cutR s n k row).Nodup := h.sublist ((List.take_sublist _ _).trans (List.drop_sublist _ _))
theorem isE_len {e : List Str} (h : isE e) : e.length ≤ 3 := by rcases h with ⟨x, rfl⟩ | ⟨x, y, rfl⟩ <;> simp
theorem touch_ok : PyData.strOk sTouch = true := by decide +kernel
theorem dflt_ok : PyData.strOk default = true := by decide +kernel
theorem mk_all : ∀ (l : List (Str × Mk)) (st : Sheet × List Str), (∀ p ∈ l, PyData.strOk p.1 = true) → (∀ e ∈ st.1, isE e ∧ okT e) → okT st.2 → ∀ e ∈ (l.foldl mkStep st).1, isE e ∧ okT e
  | [], _, _, h, _ => h
  | p :: l, st, hl, h, h2 => by
    have hp := hl p List.mem_cons_self
    have hlast : PyData.strOk (st.2.getLastD default) = true := by
      cases e : st.2 with
      | nil => exact dflt_ok
      | cons a b =>
        refine h2 _ ?_
        rw [e]
        have : (a :: b).getLastD default = (a :: b).getLast (by simp) := by simp [List.getLastD]
        rw [this]
        exact List.getLast_mem _
    refine mk_all l (mkStep st p) (fun q hq => hl q (List.mem_cons_of_mem _ hq)) (fun e he => ?_) fun x hx => ?_
    · unfold mkStep at he
      split at he
      · exact h e he
      · rcases List.mem_append.mp he with he | he
        · exact h e he
        · rw [List.mem_singleton.mp he]
          refine ⟨.inr ⟨_, _, rfl⟩, fun x hx => ?_⟩
          have : x = sTouch ∨ x = p.1 ∨ x = st.2.getLastD default := by simpa using hx
          rcases this with rfl | rfl | rfl
          · exact touch_ok
          · exact hp
          · exact hlast
      · rcases List.mem_append.mp he with he | he
        · exact h e he
        · rw [List.mem_singleton.mp he]
          refine ⟨.inl ⟨_, rfl⟩, fun x hx => ?_⟩
          have : x = sDrop ∨ x = p.1 := by simpa using hx
          rcases this with rfl | rfl
          · exact drop_ok
          · exact hp
      · exact h e he
    · unfold mkStep at hx
      split at hx
      · rcases List.mem_append.mp hx with hx | hx
        · exact h2 x hx
        · rw [List.mem_singleton.mp hx]; exact hp
      · exact h2 x (List.dropLast_subset _ hx)
      · exact h2 x hx
      · exact h2 x hx
theorem law_all {C : List Str} {ws : List Mk} (h : okT C) : ∀ e ∈ lawSheet C ws, isE e ∧ okT e := mk_all _ _ (fun p hp => h p.1 (List.of_mem_zip hp).1) (fun e he => by simp at he) (fun x hx => by simp at hx)
theorem law_len (C : List Str) (ws : List Mk) : List.length (lawSheet C ws) ≤ C.length := by
  have := (mk_len (C.zip ws) ([], [])).1
  rw [List.length_zip] at this
  have z : List.length (([], []) : Sheet × List Str).1 = 0 := rfl
  unfold lawSheet
  omega
theorem rest_all {resting : List Str} : ∀ (l : Sheet) (f : Sheet), (∀ e ∈ l, isE e ∧ okT e) → (∀ e ∈ f, isE e ∧ okT e) → (∀ e ∈ l.foldl (restEv resting) f, isE e ∧ okT e) ∧ List.length (l.foldl (restEv resting) f) ≤ List.length f + 2 * List.length l
  | [], f, _, h => ⟨h, by simp⟩
  | e :: l, f, hl, h => by
    obtain ⟨e1, e2⟩ := hl e List.mem_cons_self
    have step : (∀ x ∈ restEv resting f e, isE x ∧ okT x) ∧ List.length (restEv resting f e) ≤ List.length f + 2 := by
      unfold restEv
      split
      · refine ⟨fun x hx => ?_, ?_⟩
        · rcases List.mem_append.mp hx with hx | hx
          · exact h x hx
          · obtain ⟨b, hb, rfl⟩ := List.mem_map.mp hx
            refine ⟨.inl ⟨_, rfl⟩, fun y hy => ?_⟩
            have : y = sDrop ∨ y = b := by simpa using hy
            rcases this with rfl | rfl
            · exact drop_ok
            · exact e2 _ (List.mem_of_mem_drop hb)
        · rw [List.length_append, List.length_map, List.length_drop]
          have := isE_len e1
          omega
      · refine ⟨fun x hx => ?_, by rw [List.length_append]; simp⟩
        rcases List.mem_append.mp hx with hx | hx
        · exact h x hx
        · rw [List.mem_singleton.mp hx]
          exact ⟨e1, e2⟩
    obtain ⟨a, b⟩ := rest_all l (restEv resting f e) (fun x hx => hl x (List.mem_cons_of_mem _ hx)) step.1
    refine ⟨a, ?_⟩
    rw [List.foldl_cons, List.length_cons]
    omega
abbrev spRDay : Sp := spOf (fun i : (Addr × Nat) × (Nat × Nat × List Str × List Str) => [.ref i.1.1, encM i.2.1 i.2.2.1, encT i.2.2.2.1, encT i.2.2.2.2])
  (fun i m => (∃ o, m i.1.1 = some o ∧ PotO i.1.2 o) ∧ i.1.2 + nRaces i.2.1 i.2.2.2.1.length * i.2.2.2.1.length < 100000 ∧ 0 < i.2.1 ∧ i.2.1 < 1000 ∧ i.2.2.1 < 1000 ∧ 0 < i.2.2.2.1.length ∧ i.2.2.2.1.length ≤ 100 ∧ i.2.2.2.1.Nodup ∧ okT i.2.2.2.1 ∧ i.2.2.2.2.Nodup ∧ okT i.2.2.2.2 ∧ i.2.2.2.2.length ≤ 100) fun i m d m' =>
  ∃ (shs : List Sheet) (row' : List Str) (o : MO), DrawnK i.2.1 i.2.2.1 i.2.2.2.1.length i.2.2.2.2 (downR i.2.1 i.2.2.2.1.length) i.2.2.2.1 shs row' ∧ PotO (i.1.2 + nRaces i.2.1 i.2.2.2.1.length * i.2.2.2.1.length) o ∧ d = .tup [encD shs.reverse, encT row'] ∧ m' = mu m i.1.1 o
theorem fn_resting_day (A : At K mg "_law_resting_day" s__law_resting_day ["_law_pot", "_law_meeting", "_law_row", "_law_resting"]) (c__law_many_races : Fn P w K mg base 1 "_law_many_races" spLMany) (c__law_span : Fn P w K mg base 1 "_law_span" spLSpan) (c__law_sheet : Fn P w K mg base 1 "_law_sheet" spSheet) (c__law_marks : Fn P w K mg base 2 "_law_marks" spMarks) (c__law_raced : Fn P w K mg base 1 "_law_raced" spRaced)
    (Z : Nm mg) : Fn P w K mg base 3 "_law_resting_day" spRDay :=
  fn_at A sc__law_resting_day (fun _ => rfl) fun f cdv A outer s H E hr => ⟨_, by
    have hu64 := hu64_of hr
    have hu65 := hu65_of hr
    exact (pss_cons (ps_set (i := 4) sc__law_resting_day.nd rfl (Or.inl rfl) (pe_lst pa_nil))
      (pss_cons (ps_for PassesOwn.never rfl (pi_revR (by rfl) Z.m_reversed (prg_1 (by rfl) Z.m_range (pe_fn c__law_many_races hr (by decide) (by rfl) (pa_cons (pv 1) (pa_cons (pe_callB (k_len K rfl) (by rfl) Z.m_len b_len (pa_cons (pv 2) pa_nil)) pa_nil))))) (pg_name (i := 5) sc__law_resting_day.nd rfl (Or.inl rfl) (Or.inl rfl)) (pss_cons (ps_asg (pe_fn c__law_span hr (by decide) (by rfl) (pa_cons (pv 1) (pa_cons (pe_callB (k_len K rfl) (by rfl) Z.m_len b_len (pa_cons (pv 2) pa_nil)) (pa_cons (pv 5) pa_nil)))) (k_pgtup K rfl rfl (n := 2) (pgs_cons (pg_name (i := 6) sc__law_resting_day.nd rfl (Or.inl rfl) (Or.inl rfl)) (pgs_cons (pg_name (i := 7) sc__law_resting_day.nd rfl (Or.inl rfl) (Or.inl rfl)) pgs_nil))))
      (pss_cons (ps_set (i := 8) sc__law_resting_day.nd rfl (Or.inr rfl) (pe_slice (k_sl_tupF K rfl) (pv 2) (po_some (pv 6)) (po_some (pe_op op_add (pv 7) pe_int))))
      (pss_cons (ps_asg (pe_tupF (pa_cons (pe_fn c__law_sheet hr (by decide) (by rfl) (pa_cons (pv 8) (pa_cons (pe_fn c__law_marks hr (by decide) (by rfl) (pa_cons (pv 0) (pa_cons (pe_ix (k_ix_tup K rfl) (pv 1) pe_int (fun _ _ => rfl)) (pa_cons (pe_callB (k_len K rfl) (by rfl) Z.m_len b_len (pa_cons (pv 8) pa_nil)) pa_nil)))) pa_nil))) (pa_cons (pe_lst pa_nil) pa_nil))) (k_pgtup K rfl rfl (n := 2) (pgs_cons (pg_name (i := 9) sc__law_resting_day.nd rfl (Or.inl rfl) (Or.inl rfl)) (pgs_cons (pg_name (i := 10) sc__law_resting_day.nd rfl (Or.inr rfl) (Or.inl rfl)) pgs_nil))))
      (pss_cons (ps_for PassesOwn.never rfl (pi_tup (pv 9)) (pg_name (i := 11) sc__law_resting_day.nd rfl (Or.inl rfl) (Or.inl rfl)) (pss_one (ps_if (pt_val (pe_callB (k_any K rfl rfl) (by rfl) Z.m_any b_any (pa_cons (pe_lc (own := [("_law_boat", 12)]) rfl sc__law_resting_day.nd (pi_tup (pe_slice (k_sl_tupF K rfl) (pv 11) (po_some pe_int) po_none)) (blkOk_by (own := [("_law_boat", 12)]) (N := N__law_resting_day) (sc := defScope s__law_resting_day) (by decide +kernel)) (fun _ _ _ _ _ => (pg_name (i := 12) sc__law_resting_day.nd rfl (Or.inl rfl) (Or.inr rfl))) (fun _ _ _ _ _ => pts_nil) (fun _ _ _ _ _ => (pe_cmpR (k_in_seq K rfl) (pv 12) (pv 3) (by with_unfolding_all rfl)))) pa_nil))) (pss_one (ps_expr (pe_bm PySem.F.plainAttrs_list PySem.F.slot_list_extend PySem.F.type_list_extend mt_extend (pv 10) (pa_cons (pe_lc (own := [("_law_boat", 12)]) rfl sc__law_resting_day.nd (pi_tup (pe_slice (k_sl_tupF K rfl) (pv 11) (po_some pe_int) po_none)) (blkOk_by (own := [("_law_boat", 12)]) (N := N__law_resting_day) (sc := defScope s__law_resting_day) (by decide +kernel)) (fun _ _ _ _ _ => (pg_name (i := 12) sc__law_resting_day.nd rfl (Or.inl rfl) (Or.inr rfl))) (fun _ _ _ _ _ => pts_nil) (fun _ _ _ _ _ => (pe_tupF (pa_cons pe_str (pa_cons (pv 12) pa_nil))))) pa_nil)))) (pss_one (ps_expr (pe_bm PySem.F.plainAttrs_list PySem.F.slot_list_append PySem.F.type_list_append mt_append (pv 10) (pa_cons (pv 11) pa_nil)))))))
      (pss_cons (ps_expr (pe_bm PySem.F.plainAttrs_list PySem.F.slot_list_extend PySem.F.type_list_extend mt_extend (pv 10) (pa_cons (pe_lc (own := [("_law_boat", 12)]) rfl sc__law_resting_day.nd (pi_tup (pv 3)) (blkOk_by (own := [("_law_boat", 12)]) (N := N__law_resting_day) (sc := defScope s__law_resting_day) (by decide +kernel)) (fun _ _ _ _ _ => (pg_name (i := 12) sc__law_resting_day.nd rfl (Or.inl rfl) (Or.inr rfl))) (fun _ _ _ _ _ => (pts_one (PW.pt (pw_and (pt_cmpR (k_in_seq K rfl) (pv 12) (pv 8) (by with_unfolding_all rfl)) (pw_and1 (pt_cmpR (k_notInD K rfl hu65) (pe_tupF (pa_cons pe_str (pa_cons (pv 12) pa_nil))) (pv 10) (by with_unfolding_all rfl))))))) (fun _ _ _ _ _ => (pe_tupF (pa_cons pe_str (pa_cons (pv 12) pa_nil))))) pa_nil)))
      (pss_cons (ps_expr (pe_bm PySem.F.plainAttrs_list PySem.F.slot_list_append PySem.F.type_list_append mt_append (pv 4) (pa_cons (pe_callTy (k_tupF K rfl) (by rfl) Z.m_tuple b_tuple (pa_cons (pe_callB (k_sortD K rfl hu64) (by rfl) Z.m_sorted b_sorted (pa_cons (pv 10) pa_nil)) pa_nil)) pa_nil)))
      (pss_one (ps_set (i := 2) sc__law_resting_day.nd rfl (Or.inl rfl) (pe_op (k_catF K rfl) (pe_op (k_catF K rfl) (pe_slice (k_sl_tupF K rfl) (pv 2) po_none (po_some (pv 6))) (pe_fn c__law_raced hr (by decide) (by rfl) (pa_cons (pv 8) (pa_cons (pe_ix (k_ix_tup K rfl) (pv 1) pe_int (fun _ _ => rfl)) (pa_cons (pe_ix (k_ix_list K rfl) (pv 4) (pe_un un_neg pe_int) (fun _ _ => rfl)) pa_nil))))) (pe_slice (k_sl_tupF K rfl) (pv 2) (po_some (pe_op op_add (pv 7) pe_int)) po_none)))))))))))
      (pss_one (ps_ret (pe_tupF (pa_cons (pe_callTy (k_tupF K rfl) (by rfl) Z.m_tuple b_tuple (pa_cons (pe_revL (pv 4)) pa_nil)) (pa_cons (pv 2) pa_nil))))))), by
    rintro ⟨⟨pa, b⟩, s, r, row, resting⟩ m ⟨⟨o0, hm, hp0⟩, hb, h0, h1, hr1, h2, h3, nd, ok, ndr, okr, hrl⟩
    dsimp only at hm hp0 hb h0 h1 hr1 h2 h3 nd ok ndr okr hrl ⊢
    have hdn : nRaces s row.length ≤ row.length := by
      unfold nRaces
      exact Nat.div_le_of_le_mul (by
        have : row.length ≤ s * row.length := Nat.le_mul_of_pos_left _ h0
        have h5 : s * row.length + s = s * (row.length + 1) := by rw [Nat.mul_add, Nat.mul_one]
        have : row.length + s - 1 ≤ s * row.length := by
          have h6 : s + row.length ≤ s * row.length + 1 := by
            obtain ⟨s', rfl⟩ : ∃ s', s = s' + 1 := ⟨s - 1, by omega⟩
            rw [Nat.add_mul]
            have : s' ≤ s' * row.length := Nat.le_mul_of_pos_right _ h2
            omega
          omega
        exact this)
    refine q_asgN (en_lst ea_nil) fun SA nSA => ?_
    have pS : pa ≠ SA := fun e => by rw [e, nSA] at hm; cases hm
    refine q_for (ei_revN (n := nRaces s row.length) (ev_call (s, r, row.length) (by walk_at "ev2") (by simp) ⟨h0, h1⟩) (by omega)) (fun i r' m' => ∃ o shs R, PotO (b + i * row.length) o ∧ DrawnK s r row.length resting ((downR s row.length).take i) row shs R ∧ R.Perm row ∧ shs.length = i ∧ MLe (mu (mu m pa o) SA (.lst (shs.map encS))) m' ∧ ∃ o1 o2 o3 o4 o5 o6 o7 o8, r' = [some (.ref pa), some (encM s r), some (encT R), some (encT resting), some (.ref SA), o1, o2, o3, o4, o5, o6, o7, o8]) ⟨o0, [], row, by rw [Nat.zero_mul]; exact hp0, ⟨rfl, rfl⟩, .refl _, rfl, by rw [mu_eta hm]; exact MLe.refl _, _, _, _, _, _, _, _, _, rfl⟩ (fun _ _ _ _ => trivial) ?_ ?_
    · rintro i d r' m' hd ⟨o, shs, R, hp, hdk, hperm, hsl, hle, o1, o2, o3, o4, o5, o6, o7, o8, rfl⟩
      obtain ⟨k, hk, rfl⟩ := getEnc hd
      have hi : i < nRaces s row.length := by
        have := (List.getElem?_eq_some_iff.mp hk).1
        simpa using this
      have hk : (downR s row.length)[i]? = some k := hk
      obtain ⟨k1, k2⟩ := mem_down (memGet hk) h0 h2
      have k3 : k < 1000 := by
        have : k ≤ k * s := Nat.le_mul_of_pos_right k h0
        omega
      have xl : R.length = row.length := hperm.length_eq
      have ndR : R.Nodup := hperm.nodup_iff.mpr nd
      have hbi : b + i * row.length + row.length ≤ b + nRaces s row.length * row.length := by
        have : (i + 1) * row.length ≤ nRaces s row.length * row.length := Nat.mul_le_mul_right _ hi
        rw [Nat.add_mul, Nat.one_mul] at this
        omega
      refine ⟨_, _, ga_name, ?_⟩
      refine St.less ?_ hle
      refine q_asgG (ev_call (s, r, row.length, k) (by walk_at "ev2") (by simp [xl]) ⟨h1, h2, k3⟩) (ga_tup rfl (gas_cons ga_name (gas_cons ga_name gas_nil))) ?_
      dsimp only
      have c1 : cut (R.map Dt.str) (some ((k * s : Nat) : Int)) (some (((min (k * s + s) (row.length - 1) : Nat) : Int) + 1)) = (cutR s row.length k R).map Dt.str := by
        rw [cut_map, cut_ab (a := k * s) (b := min (k * s + s) (row.length - 1) + 1) (by omega) (by omega)]
        rfl
      have cl0 := cutR_length (s := s) xl k2
      have cl : (cutR s row.length k R).length ≤ row.length := by rw [cl0]; omega
      have ndc := cutR_nodup (s := s) (n := row.length) (k := k) ndR
      refine q_asg (Ev.is (ev_slT (by walk_at "ev") (eo_some (by walk_at "ev")) (eo_some (by walk_at "ev"))) (congrArg Dt.tup c1)) ?_
      generalize hC : cutR s row.length k R = C at cl0 cl ndc c1
      have nSp : SA ≠ pa := Ne.symm pS
      have comm : ∀ o' X, mu (mu (mu m pa o) SA X) pa o' = mu (mu m pa o') SA X := fun o' X => by rw [mu_comm nSp, mu_mu]
      refine q_seq (s_asgGX (P := fun d m2 => ∃ ws o' F, okRun r ws 0 [] ∧ ws.length = C.length ∧ PotO (b + i * row.length + C.length) o' ∧ mu (mu m pa o') SA (.lst (shs.map encS)) F = none ∧ d = .tup [encS (sortE (lawSheet C ws)), .ref F] ∧ m2 = mu (mu (mu m pa o') SA (.lst (shs.map encS))) F (.lst [])) (ex_tup (eax_cons (P := fun d m2 => ∃ ws o', okRun r ws 0 [] ∧ ws.length = C.length ∧ PotO (b + i * row.length + C.length) o' ∧ d = encS (sortE (lawSheet C ws)) ∧ m2 = mu (mu m pa o') SA (.lst (shs.map encS))) (EvX.wk (P := fun d m2 => ∃ ws o' L, okRun r ws 0 [] ∧ ws.length = C.length ∧ PotO (b + i * row.length + C.length) o' ∧ mu (mu m pa o') SA (.lst (shs.map encS)) L = none ∧ d = encS (sortE (lawSheet C ws)) ∧ m2 = mu (mu (mu m pa o') SA (.lst (shs.map encS))) L (.lst (ws.map encK1))) (ex_callX (P := fun ds m2 => ∃ ws o' L, okRun r ws 0 [] ∧ ws.length = C.length ∧ PotO (b + i * row.length + C.length) o' ∧ mu (mu m pa o') SA (.lst (shs.map encS)) L = none ∧ ds = [encT C, .ref L] ∧ m2 = mu (mu (mu m pa o') SA (.lst (shs.map encS))) L (.lst (ws.map encK1))) (eax_cons (P := fun d m2 => d = encT C ∧ m2 = mu (mu m pa o) SA (.lst (shs.map encS))) (ex_ev (by walk_at "ev") ⟨rfl, rfl⟩) ?_) ?_) ?_) ?_)) ?_)
      · rintro d m2 ⟨rfl, rfl⟩
        refine eax_cons (ex_call (pa, b + i * row.length, r, C.length) (ea_cons (by walk_at "ev") (ea_cons (ev_op (by walk_at "ev") (by walk_at "ev") (op_ixTd 1 rfl)) (ea_cons (ev_cbA (ea_cons (by walk_at "ev") ea_nil) ca_lenT) ea_nil))) (by simp) ⟨⟨o, by dsimp only; rw [mu_ne pS, mu_same], hp⟩, by dsimp only; omega, by dsimp only; omega⟩) ?_
        rintro d m2 ⟨wd, st, o', L, hg, hwl, hp', nL, rfl, rfl⟩
        dsimp only at hg hwl hp' nL ⊢
        have hfl : (fixW wd st).length = C.length := by unfold fixW; simp [hwl]
        refine eax_nil ⟨fixW wd st, o', L, gen_ok hg, hfl, hp', ?_, rfl, by rw [comm]⟩
        have : L ≠ pa := fun e => by rw [e, mu_ne pS, mu_same] at nL; cases nL
        rw [← comm, mu_ne this]
        exact nL
      · rintro es m2 ⟨ws, o', L, hrun, hwl, hp', nL, rfl, rfl⟩
        refine ⟨(r, C, L, ws), rfl, ⟨mu_same, hwl.symm, by dsimp only; omega, hrun⟩, ?_⟩
        rintro d m3 ⟨rfl, rfl⟩
        exact ⟨ws, o', L, hrun, hwl, hp', nL, rfl, rfl⟩
      · rintro d m2 ⟨ws, o', L, hrun, hwl, hp', nL, rfl, rfl⟩
        exact ⟨_, MLe.new nL, ws, o', hrun, hwl, hp', rfl, rfl⟩
      · rintro d m2 ⟨ws, o', hrun, hwl, hp', rfl, rfl⟩
        refine eax_cons (ex_en (R := fun d m3 => ∃ F, mu (mu m pa o') SA (.lst (shs.map encS)) F = none ∧ d = .ref F ∧ m3 = mu (mu (mu m pa o') SA (.lst (shs.map encS))) F (.lst [])) (en_lst ea_nil) fun F nF => ⟨F, nF, rfl, rfl⟩) ?_
        rintro d m3 ⟨F, nF, rfl, rfl⟩
        exact eax_nil ⟨by simp, ws, o', F, hrun, hwl, hp', nF, rfl, rfl⟩
      rintro d m2 ⟨ws, o', F, hrun, hwl, hp', nF, rfl, rfl⟩
      refine ⟨_, _, ga_tup rfl (gas_cons ga_name (gas_cons ga_name gas_nil)), ?_⟩
      have nF2 : ∀ {X}, mu (mu m pa o') SA (.lst X) F = none := by
        intro X
        by_cases e : F = SA
        · rw [e, mu_same] at nF; cases nF
        · rw [mu_ne e] at nF ⊢; exact nF
      have nFS : F ≠ SA := fun e => by rw [e, mu_same] at nF; cases nF
      have okC : okT C := fun x hx => by
        rw [← hC] at hx
        exact ok x (hperm.mem_iff.mp (((List.take_sublist _ _).trans (List.drop_sublist _ _)).subset hx))
      have fall := law_all (ws := ws) okC
      have fll := law_len C ws
      generalize hE : sortE (lawSheet C ws) = E
      have eall : ∀ e ∈ E, isE e ∧ okT e := fun e he => fall e (by rw [← hE] at he; exact (List.mergeSort_perm _ _).mem_iff.mp he)
      have ell : List.length E ≤ C.length := by
        rw [← hE]
        unfold sortE
        rw [List.length_mergeSort]
        exact fll
      refine q_for (ei_tup (by walk_at "ev")) (fun j r' m' => m' = mu (mu (mu m pa o') SA (.lst (shs.map encS))) F (.lst (((E.take j).foldl (restEv resting) []).map encT)) ∧ ∃ o7 o8, r' = [some (.ref pa), some (encM s r), some (encT R), some (encT resting), some (.ref SA), some (.int (k : Nat)), some (.int ((k * s : Nat) : Int)), some (.int ((min (k * s + s) (row.length - 1) : Nat) : Int)), some (encT C), some (encS E), some (.ref F), o7, o8]) ⟨rfl, _, _, rfl⟩ (fun _ _ _ _ => trivial) ?_ ?_
      · rintro j d r' m' hd ⟨rfl, o7, o8, rfl⟩
        obtain ⟨e, he, rfl⟩ := getEnc hd
        have hem := memGet he
        have et : (E.take (j + 1)).foldl (restEv resting) [] = restEv resting ((E.take j).foldl (restEv resting) []) e := foldl_take he
        obtain ⟨fa, fl⟩ := rest_all (resting := resting) (E.take j) [] (fun x hx => eall x (List.mem_of_mem_take hx)) (fun x hx => by simp at hx)
        rw [et]
        have z0 : List.length ([] : Sheet) = 0 := rfl
        have tl : List.length (E.take j) ≤ 100 := by rw [List.length_take]; omega
        generalize (E.take j).foldl (restEv resting) [] = G at fa fl
        obtain ⟨e1, e2⟩ := eall e hem
        have e3 := isE_len e1
        have dl : (e.drop 1).length ≤ 3 := by rw [List.length_drop]; omega
        refine ⟨_, _, ga_name, ?_⟩
        by_cases hc : (e.drop 1).any (fun b => decide (b ∈ resting)) = true
        · refine s_if (EvT.is (b' := true) (et_B (ev_anyLc (xs := e.drop 1) (enc := Dt.str) (ei_tup (ev_tail (xs := e) (by walk_at "ev"))) (fun _ _ => trivial) (fun _ => true) (fun x => decide (x ∈ resting)) (fun x hx => ⟨_, _, by decide, ga_name, et_yes, fun _ => ev_op (by walk_at "ev") (by walk_at "ev") op_inTS⟩) (by omega))) (by rw [filter_tt]; exact hc)) (fun _ => ?_) fun h => nomatch h
          refine s_extN (a := F) (ds := G.map encT) (by walk_at "ev") mu_same (en_lc (xs := e.drop 1) (enc := Dt.str) (ei_tup (ev_tail (xs := e) (by walk_at "ev"))) (fun _ _ => trivial) (fun _ => true) (fun x => encT [sDrop, x]) (fun x hx => ⟨_, _, by decide, ga_name, et_yes, fun _ => ev_tup (ea_cons ev_cs (ea_cons (by walk_at "ev") ea_nil))⟩) (by omega)) (by rw [filter_tt, List.length_map, List.length_map]; omega) (Wk.of ⟨?_, _, _, rfl⟩)
          rw [mu_mu, filter_tt]
          unfold restEv
          rw [if_pos hc, List.map_append, List.map_map]
          rfl
        · refine s_if (EvT.is (b' := false) (et_B (ev_anyLc (xs := e.drop 1) (enc := Dt.str) (ei_tup (ev_tail (xs := e) (by walk_at "ev"))) (fun _ _ => trivial) (fun _ => true) (fun x => decide (x ∈ resting)) (fun x hx => ⟨_, _, by decide, ga_name, et_yes, fun _ => ev_op (by walk_at "ev") (by walk_at "ev") op_inTS⟩) (by omega))) (by rw [filter_tt]; exact Bool.not_eq_true _ ▸ hc)) (fun h => nomatch h) fun _ => ?_
          refine s_app (a := F) (ds := G.map encT) (by walk_at "ev") mu_same (by walk_at "ev") (by rw [List.length_map]; omega) (Wk.of ⟨?_, _, _, rfl⟩)
          rw [mu_mu]
          unfold restEv
          rw [if_neg hc, List.map_append]
          rfl
      · rintro r' m' ⟨rfl, o7, o8, rfl⟩
        rw [List.length_map, List.take_length]
        obtain ⟨fa, fl⟩ := rest_all (resting := resting) E [] eall (fun x hx => by simp at hx)
        have z0 : List.length ([] : Sheet) = 0 := rfl
        have eR : restSheet resting C E = E.foldl (restEv resting) [] ++ (resting.filter fun b => decide (b ∈ C) && !decide ([sDrop, b] ∈ E.foldl (restEv resting) [])).map (fun b => [sDrop, b]) := rfl
        have efin : finalSheet resting C ws = sortE (restSheet resting C E) := by unfold finalSheet; rw [hE]
        generalize E.foldl (restEv resting) [] = G at fa fl eR
        have rfl' := List.length_filter_le (fun b => decide (b ∈ C) && !decide ([sDrop, b] ∈ G)) resting
        refine q_seq (s_extN (a := F) (ds := G.map encT) (by walk_at "ev") mu_same (en_lc (xs := resting) (enc := Dt.str) (ei_tup (by walk_at "ev")) (fun _ _ => trivial) (fun b => decide (b ∈ C) && !decide ([sDrop, b] ∈ G)) (fun b => encT [sDrop, b]) (fun b hb => ⟨_, _, by decide, ga_name, et_and (et_test (ev_op (by walk_at "ev") (by walk_at "ev") op_inTS)) fun _ => et_test (ev_op (x := encT [sDrop, b]) (ev_tup (ea_cons ev_cs (ea_cons (by walk_at "ev") ea_nil))) (by walk_at "ev") (op_niLT mu_same (fun x hx => ?_) fun e he => (fa e he).2)), fun _ => ev_tup (ea_cons ev_cs (ea_cons (by walk_at "ev") ea_nil))⟩) (by omega)) (by rw [List.length_map, List.length_map]; omega) ?_)
        · have : x = sDrop ∨ x = b := by simpa using hx
          rcases this with rfl | rfl
          · exact drop_ok
          · exact okr _ hb
        have e5 : G.map encT ++ ((resting.filter fun b => decide (b ∈ C) && !decide ([sDrop, b] ∈ G)).map fun b => encT [sDrop, b]) = (restSheet resting C E).map encT := by
          rw [eR, List.map_append, List.map_map]
          rfl
        rw [mu_mu, e5]
        have hne : ∀ e ∈ restSheet resting C E, e ≠ [] := fun e he => by
          rw [eR] at he
          rcases List.mem_append.mp he with he | he
          · rcases (fa e he).1 with ⟨x, rfl⟩ | ⟨x, y, rfl⟩ <;> exact fun z => nomatch z
          · obtain ⟨x, _, rfl⟩ := List.mem_map.mp he
            exact fun z => nomatch z
        refine q_seq (s_app (a := SA) (ds := shs.map encS) (d := encS (finalSheet resting C ws)) (by walk_at "ev") (by rw [mu_ne (Ne.symm nFS), mu_same]) (by rw [efin]; exact ev_cbN (en_cbA (ea_cons (by walk_at "ev") ea_nil) (ca_sortE (a := F) mu_same hne)) fun c nc => ca_tupL mu_same) (by rw [List.length_map]; omega) ?_)
        have e6 : shs.map encS ++ [encS (finalSheet resting C ws)] = (shs ++ [finalSheet resting C ws]).map encS := by rw [List.map_append]; rfl
        rw [mu_comm (a := F) (b := SA) nFS, mu_mu, e6]
        obtain ⟨snd, snl⟩ := final_sound (reach := r) (start := C) (resting := resting) hrun hwl ndc ndr (by omega)
        have gS : ∀ X Y, mu (mu (mu m pa o') SA X) F Y SA = some X := fun X Y => by rw [mu_ne (Ne.symm nFS), mu_same]
        have c4 : cut (R.map Dt.str) none (some ((k * s : Nat) : Int)) = (R.take (k * s)).map Dt.str := by rw [cut_map, cut_b rfl]
        have c5 : cut (R.map Dt.str) (some (((min (k * s + s) (row.length - 1) : Nat) : Int) + 1)) none = (R.drop (min (k * s + s) (row.length - 1) + 1)).map Dt.str := by rw [cut_map, cut_a (a := min (k * s + s) (row.length - 1) + 1) (by omega)]
        have rl : (racedR C (finalSheet resting C ws)).length = C.length := raced_length _ _ _
        refine s_asg (d := encT (layR s row.length k R (racedR C (finalSheet resting C ws)))) (Ev.is (ev_op (ev_op (Ev.is (ev_slT (by walk_at "ev") eo_none (eo_some (by walk_at "ev"))) (congrArg Dt.tup c4)) (ev_call (C, r, finalSheet resting C ws) (ea_cons (by walk_at "ev") (ea_cons (ev_op (by walk_at "ev") (by walk_at "ev") (op_ixTd 1 rfl)) (ea_cons (ev_op (by walk_at "ev") (ev_neg ev_ci) (op_ixL1 (enc := encS) (xs := shs) (v := finalSheet resting C ws) (a := SA) (gS _ _))) ea_nil))) rfl ⟨snd, by dsimp only; omega, ndc, by dsimp only; omega⟩) (op_catT (sz_of ?_))) (Ev.is (ev_slT (by walk_at "ev") (eo_some (by walk_at "ev2")) eo_none) (congrArg Dt.tup c5)) (op_catT (sz_of ?_))) ?_) ?_
        · rw [List.length_map, List.length_map, List.length_take, rl]; omega
        · rw [List.length_append, List.length_map, List.length_map, List.length_map, List.length_take, List.length_drop, rl]; omega
        · unfold layR
          simp [encT]
        · refine Wk.mk (m := mu (mu m pa o') SA (.lst ((shs ++ [finalSheet resting C ws]).map encS))) (MLe.new nF2) ⟨o', shs ++ [finalSheet resting C ws], layR s row.length k R (racedR C (finalSheet resting C ws)), hp'.more ?_, ?_, ?_, by simp [hsl], MLe.refl _, _, _, _, _, _, _, _, _, rfl⟩
          · rw [Nat.add_mul, Nat.one_mul]; omega
          · rw [List.take_add_one, hk]
            have := drawn_snoc hdk hrun (by rw [hC]; exact hwl)
            rw [hC] at this
            exact this
          · refine (lay_perm xl k2 ?_).trans hperm
            rw [hC]
            exact raced_perm snd ndc
    · rintro r' m' ⟨o, shs, R, hp, hdk, hperm, hsl, hle, o1, o2, o3, o4, o5, o6, o7, o8, rfl⟩
      have e9 : ((List.range (nRaces s row.length)).reverse.map fun n => Dt.int ((n : Nat) : Int)).length = (downR s row.length).length := by simp [downR]
      rw [e9] at hp hdk
      rw [List.take_length] at hdk
      rw [down_length] at hp
      refine St.less (m := mu (mu m pa o) SA (.lst (shs.map encS))) ?_ hle
      refine s_ret (ev_tup (ea_cons (ev_cbN (en_revL (a := SA) (by walk_at "ev") mu_same) fun c nc => ca_tupL mu_same) (ea_cons (by walk_at "ev") ea_nil))) (Wk.mk (m := mu m pa o) (MLe.new ?_) ⟨shs, R, o, hdk, hp, by rw [← List.map_reverse], rfl⟩)
      rw [mu_ne (Ne.symm pS)]
      exact nSA⟩
end
end TB
set_option Elab.async false
set_option linter.all false
set_option autoImplicit false
set_option maxRecDepth 100000
set_option maxHeartbeats 4000000
/-! boats. -/
namespace TB
open PySem PySem.Spec PyProof.Rows L2 RT
local macro_rules | `(tactic| walk_at "ev1") => `(tactic| first
  | ((with_reducible apply ev_var); rfl)
  | with_reducible exact ev_ci
  | with_reducible exact ev_cs
  | with_reducible exact ev_cb
  | with_reducible exact ev_cn
  | with_reducible apply ev_op
  | with_reducible apply ev_tup
  | with_reducible apply ev_isN
  | with_reducible apply ev_notN
  | with_reducible apply ev_notV
  | with_reducible exact op_I0i
  | with_reducible exact op_I0b
  | with_reducible exact op_eqS
  | with_reducible exact op_eqI
  | with_reducible exact op_neS
  | with_reducible exact op_neI
  | with_reducible exact op_isB
  | with_reducible exact op_inTS
  | with_reducible exact op_niTS
  | with_reducible exact op_inTI
  | with_reducible exact op_niTI
  | with_reducible apply op_ixT
  | with_reducible apply op_catT
  | with_reducible exact ea_nil
  | ((with_reducible show List.length _ ≤ 100000); first | decide | (simp <;> omega))
  | with_reducible apply ea_cons
  | with_reducible apply et_test
  | with_reducible apply et_B
  | with_reducible exact et_yes
  | with_reducible apply et_not
  | with_reducible exact ca_lenT
  | with_reducible exact ca_max
  | with_reducible exact ca_min
  | with_reducible exact eo_none
  | with_reducible apply eo_some
  | with_reducible apply ev_slT)
local macro_rules | `(tactic| walk_at "ev") => `(tactic| repeat' walk_at "ev1")
local macro_rules | `(tactic| walk_at "ev2") => `(tactic| repeat' first
  | walk_at "ev1"
  | (with_reducible apply op_mulN <;> omega)
  | (with_reducible apply op_divN <;> omega)
  | with_reducible apply ev_cbA
  | with_reducible apply ev_chain
  | with_reducible apply ev_if
  | with_reducible apply et_and
  | with_reducible apply et_or
  | with_reducible apply ev_andV
  | with_reducible apply ev_orV)

section
variable {K : PySem.W.Frag} {r : Ro} {m : Mp}
/-- one of a written list, taken -/
theorem ex_pick {tr ta : TA} {E : XK} {pa : Addr} {b : Nat} {o : MO} {es : List Dt} {vals : List Dt} (hv : EvA tr r m vals) (h : ∀ a, m a = none → EvA ta r (mu m a (.lst vals)) es) (he : es = [.ref pa, .int ((vals.length : Nat) : Int)]) (hm : m pa = some o) (hp : PotO b o) (hb : b < 1000000) (h0 : 0 < vals.length) (h1 : vals.length < 1000) :
    EvX (tOp (rIxL K) (tLst tr) (tCall spTake [] E ta)) r m (fun d m' => ∃ (v : Nat) (o' : MO), vals[v]? = some d ∧ m' = mu m pa o' ∧ PotO (b + 1) o') := by
  refine EvX.wk (P := fun d m' => ∃ (v : Nat) (o' : MO) (a : Addr), m a = none ∧ a ≠ pa ∧ vals[v]? = some d ∧ m' = mu (mu m a (.lst vals)) pa o' ∧ PotO (b + 1) o') (ex_op (P := fun d m1 => ∃ a, m a = none ∧ d = .ref a ∧ m1 = mu m a (.lst vals)) (ex_en (en_lst hv (by omega)) fun a na => ⟨a, na, rfl, rfl⟩) (T := fun x y m2 => ∃ (v : Nat) (o' : MO) (a : Addr), m a = none ∧ a ≠ pa ∧ v < vals.length ∧ x = .ref a ∧ y = .int ((v : Nat) : Int) ∧ m2 = mu (mu m a (.lst vals)) pa o' ∧ PotO (b + 1) o') ?_ ?_) ?_
  · rintro x m1 ⟨a, na, rfl, rfl⟩
    have ne : a ≠ pa := fun e => by rw [← e, na] at hm; cases hm
    refine EvX.imp (ex_take (pa := pa) (o := o) vals.length (h a na) he (by rw [mu_ne (Ne.symm ne)]; exact hm) hp hb h0 h1) ?_
    rintro d m2 ⟨v, o', hv', rfl, rfl, hp'⟩
    exact ⟨v, o', a, na, ne, hv', rfl, rfl, rfl, hp'⟩
  · rintro x y m2 ⟨v, o', a, na, ne, hv', rfl, rfl, rfl, hp'⟩
    obtain ⟨d, hd⟩ : ∃ d, vals[v]? = some d := ⟨_, List.getElem?_eq_getElem hv'⟩
    exact ⟨d, op_ixL (a := a) (ds := vals) (by rw [mu_ne ne, mu_same]) (atI_n rfl hd), v, o', a, na, ne, hd, rfl, hp'⟩
  · rintro d m' ⟨v, o', a, na, ne, hd, rfl, hp'⟩
    refine ⟨mu m pa o', ?_, v, o', hd, rfl, hp'⟩
    rw [mu_comm ne]
    exact MLe.new (by rw [mu_ne ne]; exact na)
end
theorem str_app (x y : Str) : (x ++ y).cps.toList = x.cps.toList ++ y.cps.toList := by
  show (x.cps ++ y.cps).toList = _
  simp
theorem lets_app {x y : Str} (hx : lets x) (hy : lets y) : lets (x ++ y) := fun c hc => by
  rw [str_app] at hc
  rcases List.mem_append.mp hc with h | h
  · exact hx c h
  · exact hy c h
theorem len_app (x y : Str) : (x ++ y).length = x.length + y.length := by
  show (x.cps ++ y.cps).size = x.cps.size + y.cps.size
  simp
theorem lets_nil : lets "" := fun c hc => by
  have e : (("" : Str).cps.toList) = [] := by decide +kernel
  rw [e] at hc
  cases hc
def chS (c : Nat) : Str := ⟨#[97 + c]⟩
theorem lets_ch {c : Nat} (h : c < 26) : lets (chS c) := fun d hd => by
  have : d = 97 + c := by simpa [chS] using hd
  omega
theorem az_at : ∀ c, c < 26 → azS.cps.toList[c]? = some (97 + c) := by decide +kernel
theorem az_len : azS.length ≤ sizeLine := sz_of (by decide +kernel)
def steps : List Nat := [1, 3, 5, 7, 9, 11, 15, 17]
theorem signs_apart : ∀ s ∈ steps, ∀ f, f < 26 → ∀ i, i < 8 → ∀ j, j < 8 → (f + s * i) % 26 = (f + s * j) % 26 → i = j := by decide +kernel
def nmB (first step ahead : Nat) (stem : Str) (k : Nat) : Str :=
  if ahead = 0 then cutS stem none (some (((k * step + first) % (stem.length + 1) : Nat) : Int)) ++ chS ((first + step * k) % 26) else chS ((first + step * k) % 26) ++ cutS stem none (some (((k * step + first) % (stem.length + 1) : Nat) : Int))
theorem cutS_facts {stem : Str} {lo hi : Option Int} (h : lets stem) : lets (cutS stem lo hi) ∧ (cutS stem lo hi).length ≤ stem.length := by
  have e : (cutS stem lo hi).cps.toList = (stem.cps.toList.drop (HT.sIx stem.length 0 lo)).take (HT.sIx stem.length stem.length hi - HT.sIx stem.length 0 lo) := by unfold cutS; simp
  refine ⟨fun c hc => h c ?_, ?_⟩
  · rw [e] at hc
    exact ((List.take_sublist _ _).trans (List.drop_sublist _ _)).subset hc
  · have e1 : (cutS stem lo hi).length = (cutS stem lo hi).cps.toList.length := by
      show (cutS stem lo hi).cps.size = _
      simp
    have e2 : stem.length = stem.cps.toList.length := by
      show stem.cps.size = _
      simp
    rw [e1, e, List.length_take, List.length_drop, e2]
    omega
theorem nm_good {first step ahead k : Nat} {stem : Str} (h : lets stem) (hl : stem.length ≤ 7) : goodName (nmB first step ahead stem k) := by
  obtain ⟨c1, c2⟩ := cutS_facts (lo := none) (hi := some (((k * step + first) % (stem.length + 1) : Nat) : Int)) h
  have c3 : lets (chS ((first + step * k) % 26)) := lets_ch (Nat.mod_lt _ (by decide))
  have c4 : (chS ((first + step * k) % 26)).length = 1 := rfl
  unfold nmB
  split
  · exact ⟨by rw [len_app]; omega, by rw [len_app]; omega, lets_app c1 c3⟩
  · exact ⟨by rw [len_app]; omega, by rw [len_app]; omega, lets_app c3 c1⟩
theorem nm_inj {first step ahead : Nat} {stem : Str} (hf : first < 26) (hs : step ∈ steps) {i j : Nat} (hi : i < 8) (hj : j < 8) (e : nmB first step ahead stem i = nmB first step ahead stem j) : i = j := by
  refine signs_apart step hs first hf i hi j hj ?_
  unfold nmB at e
  split at e
  · have e2 := congrArg (fun z : Str => z.cps.toList.getLast?) e
    simp only [str_app] at e2
    have : ∀ (x : Str) (c : Nat), (x.cps.toList ++ (chS c).cps.toList).getLast? = some (97 + c) := fun x c => by
      show (x.cps.toList ++ [97 + c]).getLast? = _
      simp
    rw [this, this] at e2
    have := Option.some.inj e2
    omega
  · have e2 := congrArg (fun z : Str => z.cps.toList.head?) e
    simp only [str_app] at e2
    have : ∀ (x : Str) (c : Nat), ((chS c).cps.toList ++ x.cps.toList).head? = some (97 + c) := fun x c => by
      show ([97 + c] ++ x.cps.toList).head? = _
      simp
    rw [this, this] at e2
    have := Option.some.inj e2
    omega
def words : List Str := ["drop", "touch", "none", "d", "u", "t", "o"]
theorem words_good : ∀ x ∈ words, goodName x := by
  intro x hx
  have h : ∀ x ∈ words, (1 ≤ x.length ∧ x.length ≤ 8) ∧ x.cps.toList.all (fun c => decide (97 ≤ c) && decide (c ≤ 122)) = true := by decide +kernel
  obtain ⟨⟨h1, h2⟩, h3⟩ := h x hx
  refine ⟨h1, h2, fun c hc => ?_⟩
  have := List.all_eq_true.mp h3 c hc
  simpa using this
theorem nodup_set {α : Type} {l : List α} {v : Nat} {x : α} (nd : l.Nodup) (hx : x ∉ l) : (l.set v x).Nodup := by
  refine List.pairwise_iff_getElem.mpr fun i j hi hj hij => ?_
  rw [List.length_set] at hi hj
  rw [List.getElem_set, List.getElem_set]
  have ndp := List.pairwise_iff_getElem.mp nd i j hi hj hij
  split
  · split
    · omega
    · exact fun e => hx (by rw [e]; exact List.getElem_mem _)
  · split
    · exact fun e => hx (by rw [← e]; exact List.getElem_mem _)
    · exact ndp
section
variable {P : Program} {w : World} {K : PySem.W.Frag} {mg : Str → Option Value} {base : Heap}
abbrev spBoats : Sp := spOf (fun i : Addr × Nat × Nat => [.ref i.1, .int (i.2.2 : Nat)]) (fun i m => (∃ o, m i.1 = some o ∧ PotO i.2.1 o) ∧ i.2.1 < 100000 ∧ 0 < i.2.2 ∧ i.2.2 ≤ 8) fun i m d m' => ∃ (row : List Str) (o : MO), row.length = i.2.2 ∧ row.Nodup ∧ (∀ x ∈ row, goodName x) ∧ d = encT row ∧ m' = mu m i.1 o ∧ PotO (i.2.1 + 40) o
theorem fn_boats (A : At K mg "_law_boats" s__law_boats ["_law_pot", "_law_many"]) (c__law_take : Fn P w K mg base 1 "_law_take" spTake) (Z : Nm mg) : Fn P w K mg base 2 "_law_boats" spBoats :=
  fn_at A sc__law_boats (fun _ => rfl) fun f cdv A outer s H E hr => ⟨_, (pss_cons (ps_set (i := 2) sc__law_boats.nd rfl (Or.inl rfl) pe_str)
      (pss_cons (ps_par (i := 3) (j := 4) rfl sc__law_boats.nd rfl rfl (by decide) rfl rfl (pa_cons (pe_fn c__law_take hr (by decide) (by rfl) (pa_cons (pv 0) (pa_cons pe_int pa_nil))) (pa_cons (pe_ix (k_ix_list K rfl) (pe_lst (pa_cons pe_int (pa_cons pe_int (pa_cons pe_int (pa_cons pe_int (pa_cons pe_int (pa_cons pe_int (pa_cons pe_int (pa_cons pe_int pa_nil))))))))) (pe_fn c__law_take hr (by decide) (by rfl) (pa_cons (pv 0) (pa_cons pe_int pa_nil))) (fun _ _ => rfl)) pa_nil)) (by rfl))
      (pss_cons (ps_par (i := 5) (j := 6) rfl sc__law_boats.nd rfl rfl (by decide) rfl rfl (pa_cons (pe_fn c__law_take hr (by decide) (by rfl) (pa_cons (pv 0) (pa_cons pe_int pa_nil))) (pa_cons pe_str pa_nil)) (by rfl))
      (pss_cons (ps_for PassesOwn.never rfl (pi_range1 (by rfl) Z.m_range (pa_cons (pe_fn c__law_take hr (by decide) (by rfl) (pa_cons (pv 0) (pa_cons pe_int pa_nil))) pa_nil)) (pg_name (i := 7) sc__law_boats.nd rfl (Or.inl rfl) (Or.inl rfl)) (pss_one (ps_set (i := 6) sc__law_boats.nd rfl (Or.inl rfl) (pe_op pop_catS (pv 6) (pe_ix ix_str (pv 2) (pe_fn c__law_take hr (by decide) (by rfl) (pa_cons (pv 0) (pa_cons pe_int pa_nil))) (fun _ _ => rfl))))))
      (pss_cons (ps_set (i := 8) sc__law_boats.nd rfl (Or.inl rfl) (pe_lst pa_nil))
      (pss_cons (ps_for PassesOwn.never rfl (pi_range1 (by rfl) Z.m_range (pa_cons (pv 1) pa_nil)) (pg_name (i := 7) sc__law_boats.nd rfl (Or.inl rfl) (Or.inl rfl)) (pss_cons (ps_set (i := 9) sc__law_boats.nd rfl (Or.inl rfl) (pe_ix ix_str (pv 2) (pe_op op_mod (pe_op op_add (pv 3) (pe_op op_mulW (pv 4) (pv 7))) pe_int) (fun _ _ => rfl)))
      (pss_cons (ps_set (i := 10) sc__law_boats.nd rfl (Or.inl rfl) (pe_slice sl_str (pv 6) po_none (po_some (pe_op op_mod (pe_op op_add (pe_op op_mulW (pv 7) (pv 4)) (pv 3)) (pe_op op_add (pe_callB cr_lenS (by rfl) Z.m_len b_len (pa_cons (pv 6) pa_nil)) pe_int)))))
      (pss_one (ps_expr (pe_bm PySem.F.plainAttrs_list PySem.F.slot_list_insert PySem.F.type_list_insert mt_insert' (pv 8) (pa_cons (pe_fn c__law_take hr (by decide) (by rfl) (pa_cons (pv 0) (pa_cons (pe_op op_add (pv 7) pe_int) pa_nil))) (pa_cons (pe_ix (k_ix_list K rfl) (pe_lst (pa_cons (pe_op pop_catS (pv 10) (pv 9)) (pa_cons (pe_op pop_catS (pv 9) (pv 10)) pa_nil))) (pv 5) (fun _ _ => rfl)) pa_nil))))))))
      (pss_cons (ps_for PassesOwn.never rfl (pi_range1 (by rfl) Z.m_range (pa_cons (pe_ix (k_ix_list K rfl) (pe_lst (pa_cons pe_int (pa_cons pe_int (pa_cons pe_int (pa_cons pe_int (pa_cons pe_int pa_nil)))))) (pe_fn c__law_take hr (by decide) (by rfl) (pa_cons (pv 0) (pa_cons pe_int pa_nil))) (fun _ _ => rfl)) pa_nil)) (pg_name (i := 7) sc__law_boats.nd rfl (Or.inl rfl) (Or.inl rfl)) (pss_cons (ps_set (i := 11) sc__law_boats.nd rfl (Or.inl rfl) (pe_ix (k_ix_list K rfl) (pe_lst (pa_cons pe_str (pa_cons pe_str (pa_cons pe_str (pa_cons pe_str (pa_cons pe_str (pa_cons pe_str (pa_cons pe_str pa_nil)))))))) (pe_fn c__law_take hr (by decide) (by rfl) (pa_cons (pv 0) (pa_cons pe_int pa_nil))) (fun _ _ => rfl)))
      (pss_one (ps_if (pt_cmpR (k_notIn_seq K rfl) (pv 11) (pv 8) (by with_unfolding_all rfl)) (pss_one (ps_asg (pv 11) (pg_sub (pv 8) (pe_fn c__law_take hr (by decide) (by rfl) (pa_cons (pv 0) (pa_cons (pv 1) pa_nil))) set_list))) pss_nil))))
      (pss_one (ps_ret (pe_callTy (k_tupF K rfl) (by rfl) Z.m_tuple b_tuple (pa_cons (pv 8) pa_nil))))))))))), by
    rintro ⟨pa, b, many⟩ m ⟨⟨o0, hm, hp0⟩, hb, hm0, hm8⟩
    dsimp only at hm hp0 hb hm0 hm8 ⊢
    refine q_asg ev_cs ?_
    refine q_seq (s_parX (P := fun ds m2 => ∃ (first step : Nat) (o : MO), first < 26 ∧ step ∈ steps ∧ ds = [.int ((first : Nat) : Int), .int ((step : Nat) : Int)] ∧ m2 = mu m pa o ∧ PotO (b + 2) o) (eax_cons (ex_take (pa := pa) (b := b) (o := o0) 26 (ea_cons (by walk_at "ev") (ea_cons ev_ci ea_nil)) rfl hm hp0 (by omega) (by decide) (by decide)) ?_) ?_)
    · rintro d m2 ⟨v, o1, hv, rfl, rfl, hp1⟩
      refine eax_cons (ex_pick (pa := pa) (b := b + 1) (o := o1) (vals := steps.map fun n => .int ((n : Nat) : Int)) (ea_cons ev_ci (ea_cons ev_ci (ea_cons ev_ci (ea_cons ev_ci (ea_cons ev_ci (ea_cons ev_ci (ea_cons ev_ci (ea_cons ev_ci ea_nil)))))))) (fun a na => ea_cons (by walk_at "ev") (ea_cons ev_ci ea_nil)) rfl mu_same hp1 (by omega) (by decide) (by decide)) ?_
      rintro d m3 ⟨w', o2, hd, rfl, hp2⟩
      obtain ⟨st, hst, rfl⟩ := getEnc hd
      exact eax_nil ⟨v, st, o2, hv, memGet hst, rfl, by rw [mu_mu], hp2⟩
    rintro ds m2 ⟨first, step, o2, hf, hst, rfl, rfl, hp2⟩
    refine ⟨_, _, rfl, ?_⟩
    have hst2 : step < 2 ^ 60 := by
      have : ∀ x ∈ steps, x < 2 ^ 60 := by decide
      exact this step hst
    refine q_seq (s_parX (P := fun ds m2 => ∃ (ahead : Nat) (o : MO), ahead < 2 ∧ ds = [.int ((ahead : Nat) : Int), .str ""] ∧ m2 = mu m pa o ∧ PotO (b + 3) o) (eax_cons (ex_take (pa := pa) (b := b + 2) (o := o2) 2 (ea_cons (by walk_at "ev") (ea_cons ev_ci ea_nil)) rfl mu_same hp2 (by omega) (by decide) (by decide)) ?_) ?_)
    · rintro d m2 ⟨v, o1, hv, rfl, rfl, hp1⟩
      refine eax_cons (P := fun d m3 => d = .str "" ∧ m3 = mu (mu m pa o2) pa o1) (ex_ev ev_cs ⟨rfl, rfl⟩) ?_
      rintro d m3 ⟨rfl, rfl⟩
      exact eax_nil ⟨v, o1, hv, rfl, by rw [mu_mu], hp1⟩
    rintro ds m2 ⟨ahead, o3, ha, rfl, rfl, hp3⟩
    refine ⟨_, _, rfl, ?_⟩
    refine q_seq (s_forX (P := fun ds m2 => ∃ (n : Nat) (o : MO), n < 8 ∧ ds = ((List.range n).map fun n => .int ((n : Nat) : Int)) ∧ m2 = mu m pa o ∧ PotO (b + 4) o) (eix_rng (P := fun ds m2 => ∃ (n : Nat) (o : MO), n < 8 ∧ ds = [.int ((n : Nat) : Int)] ∧ m2 = mu m pa o ∧ PotO (b + 4) o) (eax_cons (ex_take (pa := pa) (b := b + 3) (o := o3) 8 (ea_cons (by walk_at "ev") (ea_cons ev_ci ea_nil)) rfl mu_same hp3 (by omega) (by decide) (by decide)) ?_) ?_) ?_)
    · rintro d m2 ⟨v, o1, hv, rfl, rfl, hp1⟩
      exact eax_nil ⟨v, o1, hv, rfl, by rw [mu_mu], hp1⟩
    · rintro ds m2 ⟨n, o, hn, rfl, rfl, hp⟩
      exact ⟨n, rfl, by omega, n, o, hn, rfl, rfl, hp⟩
    rintro ds m2 ⟨n, o4, hn, rfl, rfl, hp4⟩
    refine ⟨fun i r' m' => ∃ (stem : Str) (o : MO), lets stem ∧ stem.length = i ∧ PotO (b + 4 + i) o ∧ m' = mu m pa o ∧ ∃ o1, r' = [some (.ref pa), some (.int (many : Nat)), some (.str azS), some (.int (first : Nat)), some (.int (step : Nat)), some (.int (ahead : Nat)), some (.str stem), o1, none, none, none, none], ⟨"", o4, lets_nil, rfl, hp4, rfl, _, rfl⟩, ?_, ?_⟩
    · rintro i d r' m' hd ⟨stem, o, hl, hlen, hp, rfl, o1, rfl⟩
      obtain ⟨j, hj, rfl⟩ := getEnc hd
      have hi : i < n := by
        have := (List.getElem?_eq_some_iff.mp hj).1
        simpa using this
      refine ⟨_, _, ga_name, ?_⟩
      refine s_asgX (P := fun d m2 => ∃ (c : Nat) (o' : MO), c < 26 ∧ d = .str (stem ++ chS c) ∧ m2 = mu m pa o' ∧ PotO (b + 4 + i + 1) o') (ex_op (P := fun d m2 => d = .str stem ∧ m2 = mu m pa o) (T := fun x y m2 => x = .str stem ∧ ∃ (c : Nat) (o' : MO), c < 26 ∧ y = .str (chS c) ∧ m2 = mu m pa o' ∧ PotO (b + 4 + i + 1) o') (ex_ev (by walk_at "ev") ⟨rfl, rfl⟩) ?_ ?_) ?_
      · rintro x m1 ⟨rfl, rfl⟩
        refine ex_op (P := fun d m2 => d = .str azS ∧ m2 = mu m pa o) (T := fun x y m2 => x = .str azS ∧ ∃ (c : Nat) (o' : MO), c < 26 ∧ y = .int ((c : Nat) : Int) ∧ m2 = mu m pa o' ∧ PotO (b + 4 + i + 1) o') (ex_ev (by walk_at "ev") ⟨rfl, rfl⟩) ?_ ?_
        · rintro x m1 ⟨rfl, rfl⟩
          refine EvX.imp (ex_take (pa := pa) (b := b + 4 + i) (o := o) 26 (ea_cons (by walk_at "ev") (ea_cons ev_ci ea_nil)) rfl mu_same hp (by omega) (by decide) (by decide)) ?_
          rintro d m3 ⟨v, o', hv, rfl, rfl, hp'⟩
          exact ⟨rfl, v, o', hv, rfl, by rw [mu_mu], hp'⟩
        · rintro x y m3 ⟨rfl, c, o', hc, rfl, rfl, hp'⟩
          exact ⟨.str (chS c), op_ixS az_len (atI_n rfl (az_at c hc)), rfl, c, o', hc, rfl, rfl, hp'⟩
      · rintro x y m3 ⟨rfl, c, o', hc, rfl, rfl, hp'⟩
        exact ⟨_, op_catStr (sz_of (by rw [hlen]; show i + 1 ≤ 100000; omega)), c, o', hc, rfl, rfl, hp'⟩
      · rintro d m3 ⟨c, o', hc, rfl, rfl, hp'⟩
        exact Wk.of ⟨stem ++ chS c, o', lets_app hl (lets_ch hc), by rw [len_app, hlen]; rfl, hp', rfl, _, rfl⟩
    rintro r' m' ⟨stem, o5, hl, hlen, hp5, rfl, o1, rfl⟩
    have hlen7 : stem.length ≤ 7 := by rw [hlen]; simp; omega
    have hp6 : PotO (b + 11) o5 := hp5.more (by simp; omega)
    refine q_asgN (en_lst ea_nil) fun B nB => ?_
    have pB : pa ≠ B := fun e => by rw [← e, mu_same] at nB; cases nB
    have nBm : m B = none := by rw [mu_ne (Ne.symm pB)] at nB; exact nB
    refine q_for (ei_rng0 (n := many) (by walk_at "ev") rfl (by omega)) (fun i r' m' => ∃ (row : List Str) (o : MO), row.Perm ((List.range i).map (nmB first step ahead stem)) ∧ PotO (b + 11 + i) o ∧ m' = mu (mu m pa o) B (.lst (row.map .str)) ∧ ∃ o1 o2 o3, r' = [some (.ref pa), some (.int (many : Nat)), some (.str azS), some (.int (first : Nat)), some (.int (step : Nat)), some (.int (ahead : Nat)), some (.str stem), o1, some (.ref B), o2, o3, none]) ⟨[], o5, .refl _, hp6, rfl, _, _, _, rfl⟩ (fun _ _ _ _ => trivial) ?_ ?_
    · rintro i d r' m' hd ⟨row, o, hperm, hp, rfl, o1, o2, o3, rfl⟩
      obtain ⟨j, hj, rfl⟩ := getEnc hd
      have hi : i < many := by
        have := (List.getElem?_eq_some_iff.mp hj).1
        simpa using this
      have ej : j = i := by
        rw [List.getElem?_range hi] at hj
        exact (Option.some.inj hj).symm
      subst ej
      have rlen : row.length = j := by rw [hperm.length_eq]; simp
      have gB : mu (mu m pa o) B (.lst (row.map .str)) pa = some o := by rw [mu_ne pB, mu_same]
      have e1 : ((first : Nat) : Int) + ((step * j : Nat) : Int) = ((first + step * j : Nat) : Int) := by omega
      have e2 : (((first + step * j : Nat) : Int)) % 26 = (((first + step * j) % 26 : Nat) : Int) := by omega
      have e3 : (((j * step : Nat) : Int) + ((first : Nat) : Int)) % (((stem.length : Nat) : Int) + 1) = (((j * step + first) % (stem.length + 1) : Nat) : Int) := by
        have h1 : ((j * step : Nat) : Int) + ((first : Nat) : Int) = ((j * step + first : Nat) : Int) := by omega
        have h2 : ((stem.length : Nat) : Int) + 1 = ((stem.length + 1 : Nat) : Int) := by omega
        rw [h1, h2, Int.natCast_emod]
      have cf := cutS_facts (lo := none) (hi := some (((j * step + first) % (stem.length + 1) : Nat) : Int)) hl
      refine ⟨_, _, ga_name, ?_⟩
      refine q_asg (d := .str (chS ((first + step * j) % 26))) (ev_op (y := .int (((first + step * j) % 26 : Nat) : Int)) (by walk_at "ev") (Ev.is (ev_op (ev_op (by walk_at "ev") (ev_op (by walk_at "ev") (by walk_at "ev") (op_mulN (by omega) (by omega))) op_I0i) (by walk_at "ev") (op_modP (by decide))) (by rw [e1, e2])) (op_ixS az_len (atI_n rfl (az_at _ (Nat.mod_lt _ (by decide)))))) ?_
      refine q_asg (ev_slS (by walk_at "ev") (sz_of (by omega)) eo_none (eo_some (i := (((j * step + first) % (stem.length + 1) : Nat) : Int)) (Ev.is (ev_op (ev_op (ev_op (by walk_at "ev") (by walk_at "ev") (op_mulN (by omega) (by omega))) (by walk_at "ev") op_I0i) (ev_op (ev_cbA (ea_cons (by walk_at "ev") ea_nil) (ca_lenS (sz_of (by omega)))) (by walk_at "ev") op_I0i) (op_modP (by omega))) (by rw [e3])))) ?_
      have lch : (chS ((first + step * j) % 26)).length = 1 := rfl
      refine s_insX (a := B) (P := fun ds m2 => ∃ (v : Nat) (o' : MO), v < j + 1 ∧ ds = [.int ((v : Nat) : Int), .str (nmB first step ahead stem j)] ∧ m2 = mu (mu m pa o') B (.lst (row.map .str)) ∧ PotO (b + 11 + j + 1) o') (by walk_at "ev") ⟨_, mu_same⟩ (eax_cons (ex_take (pa := pa) (b := b + 11 + j) (o := o) (j + 1) (ea_cons (by walk_at "ev") (ea_cons (ev_op (by walk_at "ev") (by walk_at "ev") op_I0i) ea_nil)) (by simp) gB hp (by omega) (by omega) (by omega)) ?_) ?_
      · rintro d m2 ⟨v, o', hv, rfl, rfl, hp'⟩
        have em : mu (mu (mu m pa o) B (.lst (row.map .str))) pa o' = mu (mu m pa o') B (.lst (row.map .str)) := by rw [mu_comm (Ne.symm pB), mu_mu]
        rw [em]
        refine eax_ev (ea_cons (d := .str (nmB first step ahead stem j)) (ev_opN1 (en_lst (ea_cons (ev_op (by walk_at "ev") (by walk_at "ev") (op_catStr (sz_of (by omega)))) (ea_cons (ev_op (by walk_at "ev") (by walk_at "ev") (op_catStr (sz_of (by omega)))) ea_nil))) (by walk_at "ev") fun c nc => op_ixL mu_same (atI_n (j := ahead) rfl ?_)) ea_nil) ⟨v, o', hv, rfl, rfl, hp'⟩
        unfold nmB
        rcases Nat.lt_or_ge ahead 1 with h | h
        · have h0 : ahead = 0 := by omega
          subst h0
          rfl
        · have h1 : ahead = 1 := by omega
          subst h1
          rfl
      · rintro ds m2 ⟨v, o', hv, rfl, rfl, hp'⟩
        refine ⟨row.map .str, v, _, rfl, mu_same, by rw [List.length_map]; omega, by omega, Wk.of ⟨row.take v ++ [nmB first step ahead stem j] ++ row.drop v, o', ?_, hp', ?_, _, _, _, rfl⟩⟩
        · rw [range_snoc]
          have p1 : (row.take v ++ [nmB first step ahead stem j] ++ row.drop v).Perm (row ++ [nmB first step ahead stem j]) := by
            have : row ++ [nmB first step ahead stem j] = row.take v ++ (row.drop v ++ [nmB first step ahead stem j]) := by rw [← List.append_assoc, List.take_append_drop]
            rw [this, List.append_assoc]
            exact List.Perm.append_left _ List.perm_append_comm
          exact p1.trans (hperm.append_right _)
        · rw [mu_mu, List.map_append, List.map_append, List.map_take, List.map_drop]
          rfl
    rintro r' m' ⟨row, o6, hperm, hp7, rfl, o1, o2, o3, rfl⟩
    have eL : ((List.range many).map fun n => Dt.int ((n : Nat) : Int)).length = many := by simp
    rw [eL] at hperm hp7
    have rlen : row.length = many := by rw [hperm.length_eq]; simp
    have rnd : row.Nodup := hperm.nodup_iff.mpr (by
      refine List.pairwise_iff_getElem.mpr fun i j hi hj hij => ?_
      simp only [List.length_map, List.length_range] at hi hj
      simp only [List.getElem_map, List.getElem_range]
      intro e
      have := nm_inj hf hst (by omega) (by omega) e
      omega)
    have rgd : ∀ x ∈ row, goodName x := fun x hx => by
      obtain ⟨j, _, rfl⟩ := List.mem_map.mp (hperm.mem_iff.mp hx)
      exact nm_good hl hlen7
    refine q_seq (s_forX (P := fun ds m2 => ∃ (n : Nat) (o : MO), n ≤ 2 ∧ ds = ((List.range n).map fun n => .int ((n : Nat) : Int)) ∧ m2 = mu (mu m pa o) B (.lst (row.map .str)) ∧ PotO (b + 20) o) (eix_rng (P := fun ds m2 => ∃ (n : Nat) (o : MO), n ≤ 2 ∧ ds = [.int ((n : Nat) : Int)] ∧ m2 = mu (mu m pa o) B (.lst (row.map .str)) ∧ PotO (b + 20) o) (eax_cons (ex_pick (pa := pa) (b := b + 11 + many) (o := o6) (vals := [0, 0, 0, 1, 2].map fun n : Nat => .int ((n : Nat) : Int)) (ea_cons ev_ci (ea_cons ev_ci (ea_cons ev_ci (ea_cons ev_ci (ea_cons ev_ci ea_nil))))) (fun a na => ea_cons (by walk_at "ev") (ea_cons ev_ci ea_nil)) rfl (by rw [mu_ne pB, mu_same]) hp7 (by omega) (by decide) (by decide)) ?_) ?_) ?_)
    · rintro d m2 ⟨v, o', hd, rfl, hp'⟩
      obtain ⟨n, hn, rfl⟩ := getEnc hd
      have hn2 : n ≤ 2 := by
        have : ∀ x ∈ [0, 0, 0, 1, 2], x ≤ 2 := by decide
        exact this n (memGet hn)
      exact eax_nil ⟨n, o', hn2, rfl, by rw [mu_comm (Ne.symm pB), mu_mu], hp'.more (by omega)⟩
    · rintro ds m2 ⟨n, o, hn, rfl, rfl, hp⟩
      exact ⟨n, rfl, by omega, n, o, hn, rfl, rfl, hp⟩
    rintro ds m2 ⟨n, o7, hn, rfl, rfl, hp8⟩
    refine ⟨fun i r' m' => ∃ (row : List Str) (o : MO), row.length = many ∧ row.Nodup ∧ (∀ x ∈ row, goodName x) ∧ PotO (b + 20 + 2 * i) o ∧ m' = mu (mu m pa o) B (.lst (row.map .str)) ∧ ∃ o1 o2 o3 o4, r' = [some (.ref pa), some (.int (many : Nat)), some (.str azS), some (.int (first : Nat)), some (.int (step : Nat)), some (.int (ahead : Nat)), some (.str stem), o1, some (.ref B), o2, o3, o4], ⟨row, o7, rlen, rnd, rgd, hp8, rfl, _, _, _, _, rfl⟩, ?_, ?_⟩
    · rintro i d r' m' hd ⟨row, o, rl, nd, gd, hp, rfl, o1, o2, o3, o4, rfl⟩
      obtain ⟨j, hj, rfl⟩ := getEnc hd
      have hi : i < n := by
        have := (List.getElem?_eq_some_iff.mp hj).1
        simpa using this
      refine ⟨_, _, ga_name, ?_⟩
      refine q_asgX (P := fun d m2 => ∃ (x : Str) (o' : MO), x ∈ words ∧ d = .str x ∧ m2 = mu (mu m pa o') B (.lst (row.map .str)) ∧ PotO (b + 20 + 2 * i + 1) o') (EvX.imp (ex_pick (pa := pa) (b := b + 20 + 2 * i) (o := o) (vals := words.map .str) (ea_cons ev_cs (ea_cons ev_cs (ea_cons ev_cs (ea_cons ev_cs (ea_cons ev_cs (ea_cons ev_cs (ea_cons ev_cs ea_nil))))))) (fun a na => ea_cons (by walk_at "ev") (ea_cons ev_ci ea_nil)) rfl (by rw [mu_ne pB, mu_same]) hp (by omega) (by decide) (by decide)) ?_) ?_
      · rintro d m2 ⟨v, o', hd, rfl, hp'⟩
        obtain ⟨x, hx, rfl⟩ := getEnc hd
        exact ⟨x, o', memGet hx, rfl, by rw [mu_comm (Ne.symm pB), mu_mu], hp'⟩
      rintro d m2 ⟨x, o', hx, rfl, rfl, hp'⟩
      by_cases hin : x ∈ row
      · exact s_when (EvT.is (b' := false) (et_test (ev_op (by walk_at "ev") (by walk_at "ev") (op_niLS mu_same))) (by simp [hin])) (fun h => nomatch h) fun _ => Wk.of ⟨row, o', rl, nd, gd, hp'.more (by omega), rfl, _, _, _, _, rfl⟩
      · refine s_when (EvT.is (b' := true) (et_test (ev_op (by walk_at "ev") (by walk_at "ev") (op_niLS mu_same))) (by simp [hin])) (fun _ => ?_) fun h => nomatch h
        refine s_setX (a := B) (d := .str x) (by walk_at "ev") (by walk_at "ev") (ex_take (pa := pa) (b := b + 20 + 2 * i + 1) (o := o') many (ea_cons (by walk_at "ev") (ea_cons (by walk_at "ev") ea_nil)) rfl (by rw [mu_ne pB, mu_same]) hp' (by omega) hm0 (by omega)) ?_
        rintro e m3 ⟨v, o'', hv, rfl, rfl, hp''⟩
        refine ⟨v, row.map .str, rfl, by rw [mu_ne (Ne.symm pB), mu_same], by rw [List.length_map]; omega, Wk.of ⟨row.set v x, o'', by simp [rl], nodup_set nd hin, fun y hy => ?_, hp''.more (by omega), ?_, _, _, _, _, rfl⟩⟩
        · rcases List.mem_or_eq_of_mem_set hy with h | h
          · exact gd y h
          · rw [h]; exact words_good x hx
        · rw [mu_comm (a := B) (b := pa) (Ne.symm pB), mu_mu, mu_mu, List.map_set]
    rintro r' m' ⟨row, o, rl, nd, gd, hp, rfl, o1, o2, o3, o4, rfl⟩
    refine s_ret (ev_cbA (ea_cons (by walk_at "ev") ea_nil) (ca_tupL (a := B) mu_same)) (Wk.mk (m := mu m pa o) (MLe.new ?_) ⟨row, o, rl, nd, gd, rfl, rfl, hp.more (by simp; omega)⟩)
    rw [mu_ne (Ne.symm pB)]
    exact nBm⟩
end
end TB
set_option Elab.async false
set_option linter.all false
set_option autoImplicit false
/-! what the law leans on: plain lemmas. -/
namespace TB
open PySem L2
/-- what stands of the drawn meeting -/
structure Ctx (s r : Nat) (row resting : List Str) : Prop where
  s0 : 0 < s
  s1 : s ≤ 8
  r1 : r ≤ 7
  n0 : 0 < row.length
  n1 : row.length ≤ 8
  nd : row.Nodup
  good : ∀ x ∈ row, goodName x
  ndr : resting.Nodup
  sub : ∀ x ∈ resting, x ∈ row
/-- the rows of the drawn days -/
def Chain (s r : Nat) (resting : List Str) : List (List Str) → Prop
  | [] => True
  | [_] => True
  | R :: R' :: rest => (∃ shs, DrawnK s r R.length resting (downR s R.length) R shs R') ∧ Chain s r resting (R' :: rest)
/-! ### the drawn days -/
section
variable {s r n : Nat} {resting : List Str}
theorem drawn_facts (nr : resting.Nodup) (hn : n ≤ 500) : ∀ {ks : List Nat} {row row' : List Str} {shs : List Sheet}, DrawnK s r n resting ks row shs row' → row.length = n → row.Nodup → (∀ k ∈ ks, k * s < n) →
    row'.Perm row ∧ shs.length = ks.length ∧ ∀ day : List Sheet, (∀ i k, ks[i]? = some k → day.getD k [] = shs.getD i []) → RunK s r n day ks row ∧ endD s n day ks row = row'
  | [], row, row', shs, h, _, _, _ => by
    obtain ⟨rfl, rfl⟩ := h
    exact ⟨.refl _, rfl, fun _ _ => ⟨trivial, rfl⟩⟩
  | k :: ks, row, row', shs, h, hl, nd, hk => by
    obtain ⟨ws, shs', h1, h2, rfl, h3⟩ := h
    have hk0 := hk k List.mem_cons_self
    have cl := cutR_length (s := s) hl hk0
    have cn : (cutR s n k row).Nodup := cutR_nodup nd
    obtain ⟨so, sl⟩ := final_sound (reach := r) (resting := resting) h1 h2 cn nr (by omega)
    have p := lay_perm hl hk0 (raced_perm so cn)
    have e := raced_eq so
    obtain ⟨p2, l2, g2⟩ := drawn_facts nr hn h3 (by rw [p.length_eq]; exact hl) (p.nodup_iff.mpr nd) fun x hx => hk x (List.mem_cons_of_mem _ hx)
    refine ⟨p2.trans p, by rw [List.length_cons, List.length_cons, l2], fun day hd => ?_⟩
    have d0 : day.getD k [] = finalSheet resting (cutR s n k row) ws := hd 0 k rfl
    have st : stepD s n day row k = layR s n k row (racedR (cutR s n k row) (finalSheet resting (cutR s n k row) ws)) := by
      unfold stepD
      rw [d0, e]
    obtain ⟨g3, g4⟩ := g2 day fun i k' h' => hd (i + 1) k' h'
    refine ⟨⟨by rw [d0]; exact ⟨so, by omega⟩, by rw [st]; exact g3⟩, ?_⟩
    show endD s n day ks (stepD s n day row k) = row'
    rw [st]
    exact g4
theorem down_get {i k : Nat} (h : (downR s n)[i]? = some k) : i < nRaces s n ∧ k = nRaces s n - 1 - i := by
  unfold downR at h
  obtain ⟨hi, e⟩ := List.getElem?_eq_some_iff.mp h
  rw [List.length_reverse, List.length_range] at hi
  rw [List.getElem_reverse, List.getElem_range, List.length_range] at e
  exact ⟨hi, by omega⟩
theorem rev_at {α : Type} [Inhabited α] {l : List α} {i : Nat} {d : α} (h : i < l.length) : l.reverse.getD (l.length - 1 - i) d = l.getD i d := by
  rw [List.getD_eq_getElem?_getD, List.getD_eq_getElem?_getD, List.getElem?_reverse (by omega)]
  congr 2
  omega
theorem down_len (s n : Nat) : (downR s n).length = nRaces s n := by unfold downR; simp
end
theorem Ctx.len {s r : Nat} {row resting : List Str} (C : Ctx s r row resting) {R : List Str} (hp : R.Perm row) : R.length = row.length ∧ R.Nodup := ⟨hp.length_eq, hp.nodup_iff.mpr C.nd⟩
theorem drawn_perm {s r : Nat} {row resting R R' : List Str} {shs : List Sheet} (C : Ctx s r row resting) (hp : R.Perm row) (h : DrawnK s r R.length resting (downR s R.length) R shs R') : R'.Perm row := by
  have n1 := C.n1
  obtain ⟨l, nd⟩ := C.len hp
  have n0 := C.n0
  exact (drawn_facts C.ndr (by omega) h rfl nd fun k hk => (mem_down hk C.s0 (by omega)).2).1.trans hp
theorem drawn_good {s r : Nat} {row resting R R' : List Str} {shs : List Sheet} (C : Ctx s r row resting) (hp : R.Perm row) (h : DrawnK s r R.length resting (downR s R.length) R shs R') :
    RunD s r shs.reverse R ∧ endD s R.length shs.reverse (downR s R.length) R = R' := by
  have n1 := C.n1
  have n0 := C.n0
  have s1 := C.s1
  obtain ⟨l, nd⟩ := C.len hp
  obtain ⟨_, sl, g⟩ := drawn_facts C.ndr (by omega) h rfl nd fun k hk => (mem_down hk C.s0 (by omega)).2
  rw [down_len] at sl
  obtain ⟨g1, g2⟩ := g shs.reverse fun i k hk => by
    obtain ⟨h1, rfl⟩ := down_get hk
    rw [← sl] at h1 ⊢
    exact rev_at h1
  exact ⟨⟨C.s0, by omega, by omega, by omega, by rw [List.length_reverse, sl], g1⟩, g2⟩
theorem toks_inj : ∀ {a b : List Str}, PySem.W.keyToksAll (a.map PyData.str) = PySem.W.keyToksAll (b.map PyData.str) → a = b
  | [], [], _ => rfl
  | [], y :: ys, h => by
    rw [List.map_nil, List.map_cons, PySem.W.keyToksAll, PySem.W.keyToksAll] at h
    simp at h
  | x :: xs, [], h => by
    rw [List.map_nil, List.map_cons, PySem.W.keyToksAll, PySem.W.keyToksAll] at h
    simp at h
  | x :: xs, y :: ys, h => by
    rw [List.map_cons, List.map_cons, PySem.W.keyToksAll, PySem.W.keyToksAll, PySem.W.keyToks, PySem.W.keyToks] at h
    simp only [List.cons_append, List.nil_append, List.cons.injEq, true_and] at h
    obtain ⟨h1, h2⟩ := h
    rw [PySem.W.str_of_cps (Sum.inr.inj h1), toks_inj h2]
theorem evLt_eq (a b : List Str) : evLt a b = PyProof.Rows.lexLt PyProof.Rows.itemOrd (PySem.W.keyToksAll (a.map PyData.str)) (PySem.W.keyToksAll (b.map PyData.str)) := by
  unfold evLt
  rw [py_encT, py_encT, PySem.W.dataLt, PySem.W.keyToks, PySem.W.keyToks]
theorem evLt_total {a b : List Str} (h1 : evLt a b = false) (h2 : evLt b a = false) : a = b := by
  rw [evLt_eq] at h1 h2
  exact toks_inj (PyProof.Rows.lex_total (O := PyProof.Rows.itemOrd) _ _ h1 h2)
theorem evLe_trans (a b c : List Str) (h1 : evLe a b = true) (h2 : evLe b c = true) : evLe a c = true := by
  unfold evLe at *
  rw [evLt_eq] at *
  cases h : PyProof.Rows.lexLt PyProof.Rows.itemOrd (PySem.W.keyToksAll (c.map PyData.str)) (PySem.W.keyToksAll (a.map PyData.str)) with
  | false => rfl
  | true =>
    rcases PyProof.Rows.lex_negTrans (O := PyProof.Rows.itemOrd) _ (PySem.W.keyToksAll (b.map PyData.str)) _ h with h | h
    · rw [h] at h2; cases h2
    · rw [h] at h1; cases h1
theorem evLe_total (a b : List Str) : (evLe a b || evLe b a) = true := by
  unfold evLe
  rw [evLt_eq, evLt_eq]
  cases h : PyProof.Rows.lexLt PyProof.Rows.itemOrd (PySem.W.keyToksAll (b.map PyData.str)) (PySem.W.keyToksAll (a.map PyData.str)) with
  | false => rfl
  | true =>
    cases h' : PyProof.Rows.lexLt PyProof.Rows.itemOrd (PySem.W.keyToksAll (a.map PyData.str)) (PySem.W.keyToksAll (b.map PyData.str)) with
    | false => rfl
    | true =>
      have := PyProof.Rows.lex_trans (O := PyProof.Rows.itemOrd) _ _ _ h h'
      rw [PyProof.Rows.lex_irrefl] at this
      cases this
theorem sortE_lt {es : Sheet} (h : ∀ e ∈ es, isE e) (nd : es.Nodup) : (sortE es).Pairwise fun a b => evLt a b = true := by
  have h1 : (sortE es).Pairwise fun a b => evLe a b = true := List.pairwise_mergeSort evLe_trans evLe_total es
  have h2 : (sortE es).Nodup := (sortE_perm es).nodup_iff.mpr nd
  refine List.Pairwise.imp₂ (fun a b h h' => ?_) h1 h2
  cases e : evLt a b with
  | true => rfl
  | false =>
    unfold evLe at h
    have h3 : evLt b a = false := by simpa using h
    exact absurd (evLt_total e h3) h'
theorem okT_of {e : List Str} (h : goodEv e) : okT e := fun x hx => by
  rcases h with ⟨y, rfl, hy⟩ | ⟨y, z, rfl, hy, hz, _⟩
  · have : x = sDrop ∨ x = y := by simpa using hx
    rcases this with rfl | rfl
    · exact drop_ok
    · exact lets_ok hy.2.2
  · have : x = sTouch ∨ x = y ∨ x = z := by simpa using hx
    rcases this with rfl | rfl | rfl
    · exact touch_ok
    · exact lets_ok hy.2.2
    · exact lets_ok hz.2.2
/-! ### places and rows -/
theorem lay_get {α : Type} {s n k : Nat} {row so : List α} (hl : row.length = n) (hk : k * s < n) (h2 : so.length = min (k * s + s) (n - 1) + 1 - k * s) (i : Nat) :
    (layR s n k row so)[i]? = if i < k * s then row[i]? else if i ≤ min (k * s + s) (n - 1) then so[i - k * s]? else row[i]? := by
  unfold layR
  have h1 : (row.take (k * s)).length = k * s := by rw [List.length_take]; omega
  by_cases a : i < k * s
  · rw [if_pos a, List.append_assoc, List.getElem?_append_left (by omega), List.getElem?_take, if_pos a]
  · rw [if_neg a]
    by_cases b : i ≤ min (k * s + s) (n - 1)
    · rw [if_pos b, List.getElem?_append_left (by rw [List.length_append]; omega), List.getElem?_append_right (by omega), h1]
    · rw [if_neg b, List.getElem?_append_right (by rw [List.length_append]; omega), List.getElem?_drop, List.length_append, h1, h2]
      congr 1
      omega
theorem cut_get {α : Type} {s n k : Nat} {row : List α} (i : Nat) : (cutR s n k row)[i]? = if i < min (k * s + s) (n - 1) + 1 - k * s then row[k * s + i]? else none := by
  unfold cutR
  rw [List.getElem?_take]
  split
  · rw [List.getElem?_drop]
  · rfl
theorem exch_get {α : Type} [Inhabited α] {row : List α} {i j : Nat} (hi : i < row.length) (hj : j < row.length) (x : Nat) : (exch row i j)[x]? = if x = j then row[i]? else if x = i then row[j]? else row[x]? := by
  unfold exch
  by_cases a : x = j
  · subst a
    rw [if_pos rfl, List.getElem?_set_self (by rw [List.length_set]; exact hj), getD_at (List.getElem?_eq_getElem hi), List.getElem?_eq_getElem hi]
  · rw [if_neg a, List.getElem?_set_ne (Ne.symm a)]
    by_cases b : x = i
    · subst b
      rw [if_pos rfl, List.getElem?_set_self hi, getD_at (List.getElem?_eq_getElem hj), List.getElem?_eq_getElem hj]
    · rw [if_neg b, List.getElem?_set_ne (Ne.symm b)]
/-- where the resting boats stand -/
def Stat (places : List Nat) (resting row : List Str) : Prop := ∀ (i : Nat) (x : Str), row[i]? = some x → (x ∈ resting ↔ i ∈ places)
theorem stat_places (row resting : List Str) : Stat (placesOf row resting) resting row := fun i x h => by
  unfold placesOf
  rw [List.mem_map]
  constructor
  · intro hr
    exact ⟨(x, i), List.mem_filter.mpr ⟨List.mem_zipIdx_iff_getElem?.mpr h, by simpa using hr⟩, rfl⟩
  · rintro ⟨⟨y, j⟩, hq, rfl⟩
    obtain ⟨h1, h2⟩ := List.mem_filter.mp hq
    have h3 := (zipIdx_lt h1).2
    dsimp only at h h3
    rw [h] at h3
    have h2 : y ∈ resting := of_decide_eq_true h2
    rw [Option.some.inj h3]
    exact h2
theorem stat_exch {places : List Nat} {resting row : List Str} {a b : Nat} (h : Stat places resting row) (ha : a < row.length) (hb : b < row.length) (pa : a ∉ places) (pb : b ∉ places) : Stat places resting (exch row a b) := fun i x e => by
  rw [exch_get ha hb] at e
  split at e
  · rename_i c
    subst c
    have := h a x e
    exact ⟨fun z => absurd (this.mp z) pa, fun z => absurd z pb⟩
  · split at e
    · rename_i c
      subst c
      have := h b x e
      exact ⟨fun z => absurd (this.mp z) pb, fun z => absurd z pa⟩
    · exact h i x e
/-! ### a race by moves -/
structure StepOk (s r n : Nat) (places : List Nat) (k a b : Nat) : Prop where
  a0 : k * s ≤ a
  a1 : a ≤ min (k * s + s) (n - 1)
  b0 : k * s ≤ b
  b1 : b ≤ min (k * s + s) (n - 1)
  ne : a ≠ b
  ab : a ≤ b + 1 + r
  ba : b ≤ a + 1 + r
  pa : a ∉ places
  pb : b ∉ places
theorem mv_skip {k : Nat} {resting : List Str} : ∀ (ms : List Mv) (st : DSt), ms.foldl (mvStep k resting) st = (ms.filter fun mv => decide (mv.1 = k)).foldl (mvStep k resting) st
  | [], _ => rfl
  | mv :: ms, st => by
    by_cases h : mv.1 = k
    · rw [List.filter_cons_of_pos (by simpa using h), List.foldl_cons, List.foldl_cons, mv_skip ms]
    · rw [List.filter_cons_of_neg (by simpa using h), List.foldl_cons, mv_skip ms]
      congr 1
      unfold mvStep
      rw [if_neg h]
theorem nodup_names {es : Sheet} (h : ∀ e ∈ es, isE e) (nd : (names es).Nodup) : es.Nodup := by
  induction es with
  | nil => exact List.nodup_nil
  | cons e es ih =>
    have e1 : names (e :: es) = e.drop 1 ++ names es := rfl
    rw [e1] at nd
    obtain ⟨_, n2, n3⟩ := List.nodup_append.mp nd
    refine List.nodup_cons.mpr ⟨fun he => ?_, ih (fun x hx => h x (List.mem_cons_of_mem _ hx)) n2⟩
    rcases h e List.mem_cons_self with ⟨x, rfl⟩ | ⟨x, y, rfl⟩
    · exact n3 x (by simp) x (names_mem he (by simp)) rfl
    · exact n3 x (by simp) x (names_mem he (by simp)) rfl
theorem names_drops (l : List Str) : names (l.map fun b => [sDrop, b]) = l := by
  unfold names
  rw [List.flatMap_map]
  simp
theorem touches_drops (l : List Str) : touchesOf (l.map fun b => [sDrop, b]) = [] := by
  refine List.filter_eq_nil_iff.mpr fun e he => ?_
  obtain ⟨b, _, rfl⟩ := List.mem_map.mp he
  have : ¬ (sDrop = sTouch) := drop_ne_touch
  simpa using this
structure RaceOk (s r n : Nat) (places : List Nat) (resting row : List Str) (k : Nat) (sheet : Sheet) (row' : List Str) : Prop where
  snd : Snd (cutR s n k row) r sheet
  lay : layR s n k row (behindR (cutR s n k row) sheet) = row'
  perm : row'.Perm row
  stat : Stat places resting row'
  rest : ∀ b ∈ resting, b ∈ cutR s n k row → [sDrop, b] ∈ sheet
theorem race_none {s r n k : Nat} {places : List Nat} {resting row : List Str} (hl : row.length = n) (hk : k * s < n) (nd : row.Nodup) (hs : Stat places resting row) :
    RaceOk s r n places resting row k (sortE (((cutR s n k row).filter fun b => decide (b ∈ resting)).map (fun b => [sDrop, b]) ++ [])) row := by
  have p := sortE_perm (((cutR s n k row).filter fun b => decide (b ∈ resting)).map (fun b => [sDrop, b]) ++ [])
  rw [List.append_nil] at p ⊢
  have cn : (cutR s n k row).Nodup := cutR_nodup nd
  have nt : ∀ {x y : Str}, [sTouch, x, y] ∉ ((cutR s n k row).filter fun b => decide (b ∈ resting)).map (fun b => [sDrop, b]) := fun {x y} h => by
    obtain ⟨b, _, e⟩ := List.mem_map.mp h
    exact drop_touch e.symm
  have h : Snd (cutR s n k row) r (((cutR s n k row).filter fun b => decide (b ∈ resting)).map (fun b => [sDrop, b])) := by
    refine ⟨fun e he => ?_, by rw [names_drops]; exact cn.sublist List.filter_sublist, fun x hx => by rw [names_drops] at hx; exact (List.mem_filter.mp hx).1, fun x y hm => absurd hm nt, fun x y _ _ hm => absurd hm nt⟩
    obtain ⟨b, _, rfl⟩ := List.mem_map.mp he
    exact .inl ⟨b, rfl⟩
  refine ⟨h.perm p.symm, ?_, .refl _, hs, fun b hb hc => p.mem_iff.mpr (List.mem_map.mpr ⟨b, List.mem_filter.mpr ⟨hc, by simpa using hb⟩, rfl⟩)⟩
  have t : touchesOf (sortE (((cutR s n k row).filter fun b => decide (b ∈ resting)).map (fun b => [sDrop, b]))) = [] := by
    have := p.filter (fun e : List Str => decide (e.getD 0 default = ("touch" : Str)))
    have t0 := touches_drops ((cutR s n k row).filter fun b => decide (b ∈ resting))
    unfold touchesOf at t0 ⊢
    rw [t0] at this
    exact List.perm_nil.mp this
  unfold behindR
  rw [t]
  exact lay_cut hl hk
theorem race_some {s r n k a b : Nat} {places : List Nat} {resting row : List Str} (hl : row.length = n) (hk : k * s < n) (nd : row.Nodup) (hs : Stat places resting row) (S : StepOk s r n places k a b) :
    RaceOk s r n places resting row k (sortE (((cutR s n k row).filter (fun b => decide (b ∈ resting)) ++ (btw row (min a b) (max a b)).filter (fun b => decide (b ∉ resting))).map (fun b => [sDrop, b]) ++ [[sTouch, row.getD (max a b) default, row.getD (min a b) default]])) (exch row (min a b) (max a b)) := by
  obtain ⟨a0, a1, b0, b1, ne, ab, ba, pa, pb⟩ := S
  have hlo0 : k * s ≤ min a b := by omega
  have hhi1 : max a b ≤ min (k * s + s) (n - 1) := by omega
  have hlh : min a b < max a b := by omega
  have hr : max a b - min a b - 1 ≤ r := by omega
  have plo : min a b ∉ places := by
    rcases Nat.le_total a b with h | h
    · rw [Nat.min_eq_left h]; exact pa
    · rw [Nat.min_eq_right h]; exact pb
  have phi : max a b ∉ places := by
    rcases Nat.le_total a b with h | h
    · rw [Nat.max_eq_right h]; exact pb
    · rw [Nat.max_eq_left h]; exact pa
  generalize min a b = lo at *
  generalize max a b = hi at *
  have llo : lo < row.length := by omega
  have lhi : hi < row.length := by omega
  have gx : row[hi]? = some row[hi] := List.getElem?_eq_getElem lhi
  have gy : row[lo]? = some row[lo] := List.getElem?_eq_getElem llo
  rw [getD_at gx, getD_at gy]
  generalize row[hi] = x at gx ⊢
  generalize row[lo] = y at gy ⊢
  have xr : x ∉ resting := fun z => phi ((hs hi x gx).mp z)
  have yr : y ∉ resting := fun z => plo ((hs lo y gy).mp z)
  have cn : (cutR s n k row).Nodup := cutR_nodup nd
  have cl := cutR_length (s := s) hl hk
  have cg : ∀ {i z}, k * s ≤ i → i ≤ min (k * s + s) (n - 1) → row[i]? = some z → (cutR s n k row)[i - k * s]? = some z := fun {i z} h1 h2 h3 => by
    rw [cut_get, if_pos (by omega), show k * s + (i - k * s) = i from by omega]
    exact h3
  have ix : (cutR s n k row).idxOf x = hi - k * s := idx_at cn (cg (by omega) (by omega) gx)
  have iy : (cutR s n k row).idxOf y = lo - k * s := idx_at cn (cg (by omega) (by omega) gy)
  have xm : x ∈ cutR s n k row := List.mem_of_getElem? (cg (by omega) (by omega) gx)
  have ym : y ∈ cutR s n k row := List.mem_of_getElem? (cg (by omega) (by omega) gy)
  have bm : ∀ z, z ∈ btw row lo hi ↔ ∃ j, lo < j ∧ j < hi ∧ row[j]? = some z := fun z => btw_get
  have bn : (btw row lo hi).Nodup := nd.sublist ((List.take_sublist _ _).trans (List.drop_sublist _ _))
  have pos : ∀ {i j z}, row[i]? = some z → row[j]? = some z → i = j := fun {i j z} h1 h2 => by
    rw [← idx_at nd h1, ← idx_at nd h2]
  have xb : x ∉ btw row lo hi := fun h => by
    obtain ⟨j, h1, h2, h3⟩ := (bm x).mp h
    have := pos gx h3
    omega
  have yb : y ∉ btw row lo hi := fun h => by
    obtain ⟨j, h1, h2, h3⟩ := (bm y).mp h
    have := pos gy h3
    omega
  have nxy : x ≠ y := fun e => by
    rw [e] at gx
    have := pos gx gy
    omega
  have p := sortE_perm (((cutR s n k row).filter (fun b => decide (b ∈ resting)) ++ (btw row lo hi).filter (fun b => decide (b ∉ resting))).map (fun b => [sDrop, b]) ++ [[sTouch, x, y]])
  have en : names (((cutR s n k row).filter (fun b => decide (b ∈ resting)) ++ (btw row lo hi).filter (fun b => decide (b ∉ resting))).map (fun b => [sDrop, b]) ++ [[sTouch, x, y]]) = ((cutR s n k row).filter (fun b => decide (b ∈ resting)) ++ (btw row lo hi).filter (fun b => decide (b ∉ resting))) ++ [x, y] := by
    rw [names_app, names_drops]
    rfl
  have one : ∀ {u v}, [sTouch, u, v] ∈ ((cutR s n k row).filter (fun b => decide (b ∈ resting)) ++ (btw row lo hi).filter (fun b => decide (b ∉ resting))).map (fun b => [sDrop, b]) ++ [[sTouch, x, y]] → u = x ∧ v = y := fun {u v} h => by
    rcases List.mem_append.mp h with h | h
    · obtain ⟨b, _, e⟩ := List.mem_map.mp h
      exact (drop_touch e.symm).elim
    · have := List.mem_singleton.mp h
      simpa using this
  have h : Snd (cutR s n k row) r (((cutR s n k row).filter (fun b => decide (b ∈ resting)) ++ (btw row lo hi).filter (fun b => decide (b ∉ resting))).map (fun b => [sDrop, b]) ++ [[sTouch, x, y]]) := by
    refine ⟨fun e he => ?_, ?_, fun z hz => ?_, fun u v hm => ?_, fun u v u' v' hm hm' => ?_⟩
    · rcases List.mem_append.mp he with h | h
      · obtain ⟨b, _, rfl⟩ := List.mem_map.mp h
        exact .inl ⟨b, rfl⟩
      · exact .inr ⟨x, y, List.mem_singleton.mp h⟩
    · rw [en]
      refine List.nodup_append.mpr ⟨List.nodup_append.mpr ⟨cn.sublist List.filter_sublist, bn.sublist List.filter_sublist, fun u hu v hv e => ?_⟩, by simpa using nxy, fun u hu v hv e => ?_⟩
      · subst e
        have h1 := (List.mem_filter.mp hu).2
        have h2 := (List.mem_filter.mp hv).2
        exact (of_decide_eq_true h2) (of_decide_eq_true h1)
      · subst e
        have : u = x ∨ u = y := by simpa using hv
        rcases List.mem_append.mp hu with hu | hu
        · have h1 := of_decide_eq_true (List.mem_filter.mp hu).2
          rcases this with rfl | rfl
          · exact xr h1
          · exact yr h1
        · have h1 := (List.mem_filter.mp hu).1
          rcases this with rfl | rfl
          · exact xb h1
          · exact yb h1
    · rw [en] at hz
      rcases List.mem_append.mp hz with hz | hz
      · rcases List.mem_append.mp hz with hz | hz
        · exact (List.mem_filter.mp hz).1
        · obtain ⟨j, h1, h2, h3⟩ := (bm z).mp (List.mem_filter.mp hz).1
          exact List.mem_of_getElem? (cg (by omega) (by omega) h3)
      · have : z = x ∨ z = y := by simpa using hz
        rcases this with rfl | rfl
        · exact xm
        · exact ym
    · obtain ⟨rfl, rfl⟩ := one hm
      refine ⟨by omega, ?_, fun z hz => ?_⟩
      · have := between_len (cutR s n k row) u v
        omega
      · obtain ⟨z1, z2, z3⟩ := (mem_between cn).mp hz
        have z4 := at_idx z1
        rw [cut_get] at z4
        split at z4
        · rw [en]
          refine List.mem_append_left _ (List.mem_append.mpr ?_)
          by_cases hzr : z ∈ resting
          · exact .inl (List.mem_filter.mpr ⟨z1, by simpa using hzr⟩)
          · exact .inr (List.mem_filter.mpr ⟨(bm z).mpr ⟨_, by omega, by omega, z4⟩, by simpa using hzr⟩)
        · cases z4
    · obtain ⟨rfl, rfl⟩ := one hm
      obtain ⟨rfl, rfl⟩ := one hm'
      rw [mem_between cn, mem_between cn]
      omega
  have h' := h.perm p.symm
  refine ⟨h', ?_, exch_perm llo lhi, stat_exch hs llo lhi plo phi, fun z hz hc => p.mem_iff.mpr (List.mem_append_left _ (List.mem_map.mpr ⟨z, List.mem_append_left _ (List.mem_filter.mpr ⟨hc, by simpa using hz⟩), rfl⟩))⟩
  have t : touchesOf (sortE (((cutR s n k row).filter (fun b => decide (b ∈ resting)) ++ (btw row lo hi).filter (fun b => decide (b ∉ resting))).map (fun b => [sDrop, b]) ++ [[sTouch, x, y]])) = [[sTouch, x, y]] := by
    have := p.filter (fun e : List Str => decide (e.getD 0 default = ("touch" : Str)))
    have t0 := touches_drops ((cutR s n k row).filter (fun b => decide (b ∈ resting)) ++ (btw row lo hi).filter (fun b => decide (b ∉ resting)))
    unfold touchesOf at t0 ⊢
    rw [List.filter_append, t0] at this
    exact List.perm_singleton.mp this
  unfold behindR
  rw [t]
  show layR s n k row (exch (cutR s n k row) ((cutR s n k row).idxOf x) ((cutR s n k row).idxOf y)) = _
  rw [ix, iy]
  refine List.ext_getElem? fun i => ?_
  rw [lay_get hl hk (by rw [exch_length]; exact cl), exch_get llo lhi, exch_get (by omega) (by omega), cg (by omega) (by omega) gx, cg (by omega) (by omega) gy, gx, gy]
  by_cases c1 : i < k * s
  · rw [if_pos c1, if_neg (by omega), if_neg (by omega)]
  · rw [if_neg c1]
    by_cases c2 : i ≤ min (k * s + s) (n - 1)
    · rw [if_pos c2]
      by_cases c3 : i = hi
      · rw [if_pos c3, if_neg (by omega), if_pos (by omega)]
      · rw [if_neg c3]
        by_cases c4 : i = lo
        · rw [if_pos c4, if_pos (by omega)]
        · rw [if_neg c4, if_neg (by omega), if_neg (by omega), cut_get, if_pos (by omega), show k * s + (i - k * s) = i from by omega]
    · rw [if_neg c2, if_neg (by omega), if_neg (by omega)]
/-! ### a day by moves -/
def PthF (s r n : Nat) (places : List Nat) : List Mv → Nat → Nat → Prop
  | [], p, q => p = q
  | mv :: ms, p, q => mv.2.1 = p ∧ StepOk s r n places mv.1 mv.2.1 mv.2.2 ∧ (∀ m ∈ ms, m.1 < mv.1) ∧ PthF s r n places ms mv.2.2 q
section
variable {s r n : Nat} {places : List Nat} {resting : List Str}
theorem pth_snoc {k a b : Nat} : ∀ {ms : List Mv} {p : Nat}, PthF s r n places ms p a → (∀ m ∈ ms, k < m.1) → StepOk s r n places k a b → PthF s r n places (ms ++ [(k, a, b)]) p b
  | [], p, h, _, S => by
    have h : p = a := h
    subst h
    exact ⟨rfl, S, (fun _ h => nomatch h), rfl⟩
  | mv :: ms, p, h, hk, S => by
    obtain ⟨h1, h2, h3, h4⟩ := h
    refine ⟨h1, h2, fun m hm => ?_, pth_snoc h4 (fun m hm => hk m (List.mem_cons_of_mem _ hm)) S⟩
    rcases List.mem_append.mp hm with hm | hm
    · exact h3 m hm
    · rw [List.mem_singleton.mp hm]
      exact hk mv List.mem_cons_self
theorem pth_end : ∀ {ms : List Mv} {p q : Nat}, PthF s r n places ms p q → p ∉ places → q ∉ places
  | [], p, q, h, hp => by
    have h : p = q := h
    exact h ▸ hp
  | mv :: ms, p, q, h, _ => pth_end h.2.2.2 h.2.1.pb
def GoodNames (row : List Str) : Prop := ∀ x ∈ row, goodName x
/-- what a race of a made day does -/
structure Raced (s r n : Nat) (places : List Nat) (resting row : List Str) (k : Nat) (sheet : Sheet) (row' : List Str) : Prop where
  ok : RaceOk s r n places resting row k sheet row'
  good : goodSh sheet
theorem good_of {row : List Str} {sheet row' : Sheet} {k : Nat} {es : Sheet} {R' : List Str} (hg : GoodNames row) (hn : n ≤ 500) (hl : row.length = n) (hk : k * s < n) (h : RaceOk s r n places resting row k (sortE es) R') (nd : row.Nodup) : goodSh (sortE es) := by
  have cs : ∀ x ∈ cutR s n k row, x ∈ row := fun x hx => ((List.take_sublist _ _).trans (List.drop_sublist _ _)).subset hx
  have ge : ∀ e ∈ sortE es, goodEv e := fun e he => by
    have nm : ∀ x ∈ e.drop 1, goodName x := fun x hx => hg x (cs x (h.snd.inn x (names_mem he hx)))
    rcases h.snd.form e he with ⟨x, rfl⟩ | ⟨x, y, rfl⟩
    · exact .inl ⟨x, rfl, nm x (by simp)⟩
    · have := (h.snd.tch x y he).1
      exact .inr ⟨x, y, rfl, nm x (by simp), nm y (by simp), fun e => by rw [e] at this; omega⟩
  have p := sortE_perm es
  have cn : (cutR s n k row).Nodup := cutR_nodup nd
  have l1 := (h.snd.sound (by rw [cutR_length hl hk]; omega)).1.len
  refine ⟨⟨ge, sortE_lt (fun e he => h.snd.form e (p.mem_iff.mpr he)) (p.nodup_iff.mp (nodup_names h.snd.form h.snd.nd)), l1⟩, fun e he => okT_of (ge e he)⟩
theorem skip_eq (s n : Nat) (resting : List Str) (moves : List Mv) (row : List Str) (k : Nat) : raceSt s n resting moves row k = (moves.filter fun mv => decide (mv.1 = k)).foldl (mvStep k resting) ((cutR s n k row).filter (fun b => decide (b ∈ resting)), [], row) := mv_skip _ _
theorem raced_none {moves : List Mv} {row : List Str} {k : Nat} (hl : row.length = n) (hn : n ≤ 500) (hk : k * s < n) (nd : row.Nodup) (hs : Stat places resting row) (hg : GoodNames row) (hm : ∀ mv ∈ moves, mv.1 ≠ k) :
    Raced s r n places resting row k (sheetOf (raceSt s n resting moves row k)) (raceSt s n resting moves row k).2.2 ∧ (raceSt s n resting moves row k).2.2 = row := by
  have e : raceSt s n resting moves row k = ((cutR s n k row).filter (fun b => decide (b ∈ resting)), [], row) := by
    have e0 : (moves.filter fun mv => decide (mv.1 = k)) = [] := List.filter_eq_nil_iff.mpr fun mv h => by simpa using hm mv h
    rw [skip_eq, e0]
    rfl
  rw [e]
  have := race_none (r := r) hl hk nd hs
  exact ⟨⟨this, good_of (sheet := []) (row' := []) hg hn hl hk this nd⟩, rfl⟩
theorem raced_some {moves : List Mv} {row : List Str} {k a b : Nat} (hl : row.length = n) (hn : n ≤ 500) (hk : k * s < n) (nd : row.Nodup) (hs : Stat places resting row) (hg : GoodNames row) (hm : (moves.filter fun mv => decide (mv.1 = k)) = [(k, a, b)]) (S : StepOk s r n places k a b) :
    Raced s r n places resting row k (sheetOf (raceSt s n resting moves row k)) (raceSt s n resting moves row k).2.2 ∧ (raceSt s n resting moves row k).2.2[b]? = row[a]? := by
  have e : raceSt s n resting moves row k = ((cutR s n k row).filter (fun b => decide (b ∈ resting)) ++ (btw row (min a b) (max a b)).filter (fun b => decide (b ∉ resting)), [[sTouch, row.getD (max a b) default, row.getD (min a b) default]], exch row (min a b) (max a b)) := by
    rw [skip_eq, hm, List.foldl_cons, List.foldl_nil]
    unfold mvStep
    rw [if_pos rfl]
    rfl
  rw [e]
  have := race_some hl hk nd hs S
  refine ⟨⟨this, good_of (sheet := []) (row' := []) hg hn hl hk this nd⟩, ?_⟩
  have h1 := S.a1
  have h2 := S.b1
  have h3 := S.ne
  dsimp only
  rw [exch_get (by omega) (by omega)]
  by_cases c : a ≤ b
  · rw [Nat.max_eq_right c, Nat.min_eq_left c, if_pos rfl]
  · rw [Nat.max_eq_left (by omega), Nat.min_eq_right (by omega), if_neg (by omega), if_pos rfl]
structure DayOk (s r n : Nat) (places : List Nat) (resting row : List Str) (ks : List Nat) (shs : List Sheet) (row' : List Str) : Prop where
  len : shs.length = ks.length
  perm : row'.Perm row
  stat : Stat places resting row'
  run : ∀ day : List Sheet, (∀ i k, ks[i]? = some k → day.getD k [] = shs.getD i []) → RunK s r n day ks row ∧ endD s n day ks row = row' ∧ ∀ p ∈ shs.zip (startsOf s n day ks row), ∀ b ∈ resting, b ∈ p.2 → [sDrop, b] ∈ p.1
  good : ∀ sh ∈ shs, goodSh sh
theorem day_ok (hn : n ≤ 500) : ∀ (ks : List Nat) (row : List Str) (acc : List Sheet) (done rest : List Mv) (p q : Nat), ks.Pairwise (fun a b => b < a) → (∀ k ∈ ks, k * s < n) → (∀ mv ∈ done, mv.1 ∉ ks) → (∀ mv ∈ rest, mv.1 ∈ ks) → PthF s r n places rest p q →
    row.length = n → row.Nodup → Stat places resting row → GoodNames row →
    ∃ shs row', ks.foldl (raceBy s n resting (done ++ rest)) (row, acc) = (row', acc ++ shs) ∧ DayOk s r n places resting row ks shs row' ∧ row'[q]? = row[p]?
  | [], row, acc, done, rest, p, q, _, _, _, hr, hp, hl, nd, hs, hg => by
    have : rest = [] := by
      cases rest with
      | nil => rfl
      | cons mv ms => exact nomatch hr mv List.mem_cons_self
    subst this
    have hp : p = q := hp
    subst hp
    refine ⟨[], row, by simp, ⟨rfl, .refl _, hs, fun day _ => ⟨trivial, rfl, fun p hp => nomatch hp⟩, fun sh h => nomatch h⟩, rfl⟩
  | k :: ks, row, acc, done, rest, p, q, hks, hk, hd, hr, hp, hl, nd, hs, hg => by
    obtain ⟨k1, k2⟩ := List.pairwise_cons.mp hks
    have hk0 := hk k List.mem_cons_self
    -- what this race does
    have core : ∃ done' rest' p', done ++ rest = done' ++ rest' ∧ (∀ mv ∈ done', mv.1 ∉ ks) ∧ (∀ mv ∈ rest', mv.1 ∈ ks) ∧ PthF s r n places rest' p' q ∧
        Raced s r n places resting row k (sheetOf (raceSt s n resting (done ++ rest) row k)) (raceSt s n resting (done ++ rest) row k).2.2 ∧ (raceSt s n resting (done ++ rest) row k).2.2[p']? = row[p]? := by
      have nD : ∀ mv ∈ done, mv.1 ≠ k := fun mv h e => hd mv h (by rw [e]; exact List.mem_cons_self)
      have dks : ∀ mv ∈ done, mv.1 ∉ ks := fun mv h e => hd mv h (List.mem_cons_of_mem _ e)
      have same : (∀ mv ∈ rest, mv.1 ≠ k) → ∃ done' rest' p', done ++ rest = done' ++ rest' ∧ (∀ mv ∈ done', mv.1 ∉ ks) ∧ (∀ mv ∈ rest', mv.1 ∈ ks) ∧ PthF s r n places rest' p' q ∧
        Raced s r n places resting row k (sheetOf (raceSt s n resting (done ++ rest) row k)) (raceSt s n resting (done ++ rest) row k).2.2 ∧ (raceSt s n resting (done ++ rest) row k).2.2[p']? = row[p]? := fun nr => by
        obtain ⟨g1, g2⟩ := raced_none (r := r) (moves := done ++ rest) (k := k) hl hn hk0 nd hs hg fun mv h => (List.mem_append.mp h).elim (nD mv) (nr mv)
        refine ⟨done, rest, p, rfl, dks, fun mv h => ?_, hp, g1, by rw [g2]⟩
        rcases List.mem_cons.mp (hr mv h) with e | h'
        · exact absurd e (nr mv h)
        · exact h'
      cases rest with
      | nil => exact same fun mv h => nomatch h
      | cons mv ms =>
        obtain ⟨e1, S, h3, h4⟩ := hp
        by_cases c : mv.1 = k
        · have hf : ((done ++ mv :: ms).filter fun mv => decide (mv.1 = k)) = [(k, mv.2.1, mv.2.2)] := by
            rw [List.filter_append, List.filter_eq_nil_iff.mpr fun m h => by simpa using nD m h, List.filter_cons_of_pos (by simpa using c), List.filter_eq_nil_iff.mpr fun m h => by
              have := h3 m h
              simp; omega]
            rw [← c]
            rfl
          rw [c] at S
          obtain ⟨g1, g2⟩ := raced_some (moves := done ++ mv :: ms) hl hn hk0 nd hs hg hf S
          refine ⟨done ++ [mv], ms, mv.2.2, by rw [List.append_assoc]; rfl, fun m h => ?_, fun m h => ?_, h4, g1, by rw [g2, e1]⟩
          · rcases List.mem_append.mp h with h | h
            · exact dks m h
            · rw [List.mem_singleton.mp h, c]
              intro z
              have := k1 k z
              omega
          · rcases List.mem_cons.mp (hr m (List.mem_cons_of_mem _ h)) with e | h'
            · have := h3 m h; omega
            · exact h'
        · refine same fun m h => ?_
          rcases List.mem_cons.mp h with rfl | h
          · exact c
          · have := h3 m h
            rcases List.mem_cons.mp (hr mv List.mem_cons_self) with e | h'
            · exact absurd e c
            · have := k1 _ h'
              omega
    obtain ⟨done', rest', p', he, hd', hr', hp', hra, hpos⟩ := core
    have perm := hra.ok.perm
    rw [List.foldl_cons]
    show ∃ shs row', ks.foldl (raceBy s n resting (done ++ rest)) ((raceSt s n resting (done ++ rest) row k).2.2, acc ++ [sheetOf (raceSt s n resting (done ++ rest) row k)]) = _ ∧ _
    generalize sheetOf (raceSt s n resting (done ++ rest) row k) = sh at hra
    generalize (raceSt s n resting (done ++ rest) row k).2.2 = R at hra hpos perm
    rw [he]
    obtain ⟨shs, row', f1, f2, f3⟩ := day_ok hn ks R (acc ++ [sh]) done' rest' p' q k2 (fun x hx => hk x (List.mem_cons_of_mem _ hx)) hd' hr' hp' (by rw [perm.length_eq]; exact hl) (perm.nodup_iff.mpr nd) hra.ok.stat (fun x hx => hg x (perm.mem_iff.mp hx))
    refine ⟨sh :: shs, row', by rw [f1, List.append_assoc]; rfl, ⟨by rw [List.length_cons, List.length_cons, f2.len], f2.perm.trans perm, f2.stat, fun day hday => ?_, fun x hx => ?_⟩, by rw [f3, hpos]⟩
    · have d0 : day.getD k [] = sh := hday 0 k rfl
      obtain ⟨r1, r2, r3⟩ := f2.run day fun i k' h => hday (i + 1) k' h
      have st : stepD s n day row k = R := by
        unfold stepD
        rw [d0]
        exact hra.ok.lay
      obtain ⟨so, sl⟩ := hra.ok.snd.sound (by rw [cutR_length hl hk0]; omega)
      refine ⟨⟨by rw [d0]; exact ⟨so, by rw [cutR_length hl hk0] at sl; omega⟩, by rw [st]; exact r1⟩, ?_, fun pr hpr => ?_⟩
      · show endD s n day ks (stepD s n day row k) = row'
        rw [st]
        exact r2
      · have : startsOf s n day (k :: ks) row = cutR s n k row :: startsOf s n day ks (stepD s n day row k) := rfl
        rw [this, st, List.zip_cons_cons] at hpr
        rcases List.mem_cons.mp hpr with rfl | hpr
        · exact hra.ok.rest
        · exact r3 pr hpr
    · rcases List.mem_cons.mp hx with rfl | hx
      · exact hra.good
      · exact f2.good x hx
theorem zip_rev {α β : Type} : ∀ {l : List α} {l' : List β}, l.length = l'.length → l.reverse.zip l'.reverse = (l.zip l').reverse
  | [], [], _ => rfl
  | [], _ :: _, h => nomatch h
  | _ :: _, [], h => nomatch h
  | a :: l, b :: l', h => by
    have h' : l.length = l'.length := by simpa using h
    rw [List.reverse_cons, List.reverse_cons, List.zip_cons_cons, List.reverse_cons, ← zip_rev h', List.zip_append (by rw [List.length_reverse, List.length_reverse, h'])]
    rfl
theorem starts_len (day : List Sheet) : ∀ (ks : List Nat) (row : List Str), (startsOf s n day ks row).length = ks.length
  | [], _ => rfl
  | k :: ks, row => by rw [startsOf, List.length_cons, starts_len day ks, List.length_cons]
theorem down_pair (s n : Nat) : (downR s n).Pairwise fun a b => b < a := by
  unfold downR
  rw [List.pairwise_reverse]
  exact List.pairwise_lt_range
theorem races_le (s n : Nat) (h0 : 0 < s) (h2 : 0 < n) : nRaces s n ≤ n := by
  unfold nRaces
  refine Nat.div_le_of_le_mul ?_
  obtain ⟨s', rfl⟩ : ∃ s', s = s' + 1 := ⟨s - 1, by omega⟩
  rw [Nat.add_mul]
  have : s' ≤ s' * n := Nat.le_mul_of_pos_right _ h2
  omega
end
theorem day_made {s r p q : Nat} {places : List Nat} {resting row : List Str} {ms : List Mv} (s0 : 0 < s) (s1 : s < 1000) (n0 : 0 < row.length) (n1 : row.length ≤ 24) (nd : row.Nodup) (hs : Stat places resting row) (hg : GoodNames row) (hp : PthF s r row.length places ms p q) (hk : ∀ mv ∈ ms, mv.1 < nRaces s row.length) :
    GoodDay s r resting (dayBy s row.length resting ms row).2.reverse row ∧ endD s row.length (dayBy s row.length resting ms row).2.reverse (downR s row.length) row = (dayBy s row.length resting ms row).1 ∧
      (dayBy s row.length resting ms row).1.Perm row ∧ Stat places resting (dayBy s row.length resting ms row).1 ∧ (dayBy s row.length resting ms row).1[q]? = row[p]? := by
  obtain ⟨shs, row', e, D, h⟩ := day_ok (r := r) (by omega : row.length ≤ 500) (downR s row.length) row [] [] ms p q (down_pair _ _) (fun k hk => (mem_down hk s0 n0).2) (fun _ h => nomatch h) (fun mv h => by unfold downR; rw [List.mem_reverse, List.mem_range]; exact hk mv h) hp rfl nd hs hg
  have e : dayBy s row.length resting ms row = (row', shs) := by rw [List.nil_append, List.nil_append] at e; exact e
  rw [e]
  dsimp only
  have sl := D.len
  rw [down_len] at sl
  obtain ⟨g1, g2, g3⟩ := D.run shs.reverse fun i k hk => by
    obtain ⟨h1, rfl⟩ := down_get hk
    rw [← sl] at h1 ⊢
    exact rev_at h1
  have nr := races_le s row.length s0 n0
  refine ⟨⟨⟨s0, s1, n0, by omega, by rw [List.length_reverse, sl], g1⟩, fun pr hpr => ?_, fun sh hsh => D.good sh (List.mem_reverse.mp hsh), by rw [List.length_reverse, sl]; omega⟩, g2, D.perm, D.stat, h⟩
  unfold startsD at hpr
  have hz : shs.reverse.zip (startsOf s row.length shs.reverse (downR s row.length) row).reverse = (shs.zip (startsOf s row.length shs.reverse (downR s row.length) row)).reverse := by
    rw [zip_rev (by rw [starts_len, down_len, sl])]
  rw [hz] at hpr
  exact g3 pr (List.mem_reverse.mp hpr)
/-! ### what moves_from finds -/
section
variable {s r n k here : Nat} {places : List Nat} {moves : List Mv}
theorem goals_app : ∀ (gs : List Nat) (found : Found), ∃ ex : Found, gs.foldl (goalStep places k here moves) found = found ++ ex ∧ (∀ e ∈ ex, e.1 ∈ gs ∧ e.1 ∉ places ∧ e.1 ∉ found.map (·.1) ∧ e.2 = moves ++ [(k, here, e.1)]) ∧ ∀ g ∈ gs, g ∉ places → g ∈ (found ++ ex).map (·.1)
  | [], found => ⟨[], by simp, (fun _ h => nomatch h), fun _ h => nomatch h⟩
  | g :: gs, found => by
    rw [List.foldl_cons]
    unfold goalStep
    by_cases c : g ∉ places ∧ g ∉ found.map (·.1)
    · rw [if_pos c]
      obtain ⟨ex, h1, h2, h3⟩ := goals_app gs (found ++ [(g, moves ++ [(k, here, g)])])
      refine ⟨(g, moves ++ [(k, here, g)]) :: ex, ?_, fun e he => ?_, fun g' hg' np => ?_⟩
      · unfold goalStep at h1
        rw [h1, List.append_assoc]
        rfl
      · rcases List.mem_cons.mp he with rfl | he
        · exact ⟨List.mem_cons_self, c.1, c.2, rfl⟩
        · obtain ⟨a1, a2, a3, a4⟩ := h2 e he
          exact ⟨List.mem_cons_of_mem _ a1, a2, fun z => a3 (by rw [List.map_append]; exact List.mem_append_left _ z), a4⟩
      · have e0 : found ++ (g, moves ++ [(k, here, g)]) :: ex = found ++ [(g, moves ++ [(k, here, g)])] ++ ex := by rw [List.append_assoc]; rfl
        rw [e0]
        rcases List.mem_cons.mp hg' with rfl | hg'
        · simp
        · exact h3 g' hg' np
    · rw [if_neg c]
      obtain ⟨ex, h1, h2, h3⟩ := goals_app gs found
      refine ⟨ex, ?_, fun e he => ?_, fun g' hg' np => ?_⟩
      · unfold goalStep at h1
        exact h1
      · obtain ⟨a1, a2, a3, a4⟩ := h2 e he
        exact ⟨List.mem_cons_of_mem _ a1, a2, a3, a4⟩
      · rcases List.mem_cons.mp hg' with rfl | hg'
        · rw [List.map_append]
          refine List.mem_append_left _ ?_
          by_cases z : g' ∈ found.map (·.1)
          · exact z
          · exact absurd ⟨np, z⟩ c
        · exact h3 g' hg' np
theorem valD_app {α : Type} {l ex : List (Nat × α)} {q : Nat} (h : q ∈ l.map (·.1)) : valD (l ++ ex) q = valD l q := by
  obtain ⟨v, hv, _⟩ := valD_of_key h
  unfold valD at hv ⊢
  rw [List.find?_append]
  cases e : l.find? fun kv => decide (kv.1 = q) with
  | none => rw [e] at hv; cases hv
  | some x => rfl
theorem mem_goals {g : Nat} : g ∈ goalsOf s r n k here ↔ k * s ≤ g ∧ g ≤ min (k * s + s) (n - 1) ∧ here ≤ g + 1 + r ∧ g ≤ here + 1 + r := by
  unfold goalsOf
  rw [mem_rangeN]
  omega
theorem mem_heres {found : Found} {q : Nat} : q ∈ heresOf s n found k ↔ q ∈ found.map (·.1) ∧ k * s ≤ q ∧ q ≤ min (k * s + s) (n - 1) := by
  unfold heresOf
  rw [List.mem_filter, Bool.and_eq_true, decide_eq_true_eq, decide_eq_true_eq]
/-- the races of found, one more -/
theorem heres_app {p : Nat} {found0 : Found} (hp : p ∉ places) (h0 : ∀ e ∈ found0, PthF s r n places e.2 p e.1 ∧ ∀ mv ∈ e.2, k < mv.1) : ∀ (hs : List Nat) (ex0 : Found), (∀ h ∈ hs, h ∈ heresOf s n found0 k) → (∀ e ∈ ex0, PthF s r n places e.2 p e.1 ∧ ∀ mv ∈ e.2, k ≤ mv.1) →
    ∃ ex : Found, hs.foldl (hereStep s r n places k) (found0 ++ ex0) = found0 ++ ex ∧ (∀ e ∈ ex, PthF s r n places e.2 p e.1 ∧ ∀ mv ∈ e.2, k ≤ mv.1) ∧ (∀ q ∈ ex0.map (·.1), q ∈ ex.map (·.1)) ∧ ∀ h ∈ hs, ∀ g ∈ goalsOf s r n k h, g ∉ places → g ∈ (found0 ++ ex).map (·.1)
  | [], ex0, _, he => ⟨ex0, rfl, he, (fun _ h => h), fun _ h => nomatch h⟩
  | h :: hs, ex0, hh, he => by
    rw [List.foldl_cons]
    unfold hereStep
    obtain ⟨ex, h1, h2, h3⟩ := goals_app (places := places) (k := k) (here := h) (moves := (valD (found0 ++ ex0) h).getD []) (goalsOf s r n k h) (found0 ++ ex0)
    rw [h1, List.append_assoc]
    obtain ⟨hk, hs0, hs1⟩ := mem_heres.mp (hh h List.mem_cons_self)
    obtain ⟨v, hv, hm⟩ := valD_of_key hk
    have hv' : (valD (found0 ++ ex0) h).getD [] = v := by rw [valD_app hk, hv]; rfl
    rw [hv'] at h2
    obtain ⟨g1, g2⟩ := h0 _ hm
    have hnp := pth_end g1 hp
    obtain ⟨ex', f1, f2, f3, f4⟩ := heres_app hp h0 hs (ex0 ++ ex) (fun x hx => hh x (List.mem_cons_of_mem _ hx)) fun e hE => by
      rcases List.mem_append.mp hE with hE | hE
      · exact he e hE
      · obtain ⟨a1, a2, a3, a4⟩ := h2 e hE
        obtain ⟨b1, b2, b3, b4⟩ := mem_goals.mp a1
        rw [a4]
        refine ⟨pth_snoc g1 g2 ⟨hs0, hs1, b1, b2, fun e' => a3 ?_, b3, by omega, hnp, a2⟩, fun mv hmv => ?_⟩
        · rw [← e', List.map_append]
          exact List.mem_append_left _ hk
        · rcases List.mem_append.mp hmv with hmv | hmv
          · have := g2 mv hmv; omega
          · rw [List.mem_singleton.mp hmv]
            exact Nat.le_refl _
    unfold hereStep at f1
    refine ⟨ex', f1, f2, fun q hq => f3 q (by rw [List.map_append]; exact List.mem_append_left _ hq), fun x hx g hg np => ?_⟩
    rcases List.mem_cons.mp hx with rfl | hx
    · have := h3 g hg np
      rw [List.append_assoc, List.map_append] at this
      rw [List.map_append]
      rcases List.mem_append.mp this with z | z
      · exact List.mem_append_left _ z
      · exact List.mem_append_right _ (f3 g z)
    · exact f4 x hx g hg np
theorem race_app {p : Nat} {found0 : Found} (hp : p ∉ places) (h0 : ∀ e ∈ found0, PthF s r n places e.2 p e.1 ∧ ∀ mv ∈ e.2, k < mv.1) :
    ∃ ex : Found, raceStep s r n places found0 k = found0 ++ ex ∧ (∀ e ∈ found0 ++ ex, PthF s r n places e.2 p e.1 ∧ ∀ mv ∈ e.2, k ≤ mv.1) ∧ ∀ h ∈ found0.map (·.1), k * s ≤ h → h ≤ min (k * s + s) (n - 1) → ∀ g ∈ goalsOf s r n k h, g ∉ places → g ∈ (found0 ++ ex).map (·.1) := by
  obtain ⟨ex, h1, h2, _, h4⟩ := heres_app hp h0 (heresOf s n found0 k) [] (fun _ h => h) (fun _ h => nomatch h)
  rw [List.append_nil] at h1
  refine ⟨ex, h1, fun e he => ?_, fun h hh a b => h4 h (mem_heres.mpr ⟨hh, a, b⟩)⟩
  rcases List.mem_append.mp he with he | he
  · exact ⟨(h0 e he).1, fun mv hmv => by have := (h0 e he).2 mv hmv; omega⟩
  · exact h2 e he
end
section
variable {s r n : Nat} {places : List Nat}
/-- a place's way through races: it stays, or goes on within a race -/
def Goes (s r n : Nat) (places : List Nat) : List Nat → Nat → Nat → Prop
  | [], p, q => p = q
  | k :: ks, p, q => ∃ p', (p' = p ∨ (k * s ≤ p ∧ p ≤ min (k * s + s) (n - 1) ∧ p' ∈ goalsOf s r n k p ∧ p' ∉ places)) ∧ Goes s r n places ks p' q
theorem races_app {p : Nat} (hp : p ∉ places) : ∀ (ks : List Nat) (found : Found), ks.Pairwise (fun a b => b < a) → (∀ e ∈ found, PthF s r n places e.2 p e.1 ∧ ∀ mv ∈ e.2, ∀ k ∈ ks, k < mv.1) →
    (∀ e ∈ ks.foldl (raceStep s r n places) found, PthF s r n places e.2 p e.1 ∧ ∀ mv ∈ e.2, mv.1 ∈ ks ∨ ∃ e' ∈ found, mv ∈ e'.2) ∧ (∀ q ∈ found.map (·.1), ∀ g, Goes s r n places ks q g → g ∈ (ks.foldl (raceStep s r n places) found).map (·.1))
  | [], found, _, h => ⟨fun e he => ⟨(h e he).1, fun mv hmv => .inr ⟨e, he, hmv⟩⟩, fun q hq g hg => by
    have hg : q = g := hg
    exact hg ▸ hq⟩
  | k :: ks, found, hk, h => by
    obtain ⟨k1, k2⟩ := List.pairwise_cons.mp hk
    rw [List.foldl_cons]
    obtain ⟨ex, h1, h2, h3⟩ := race_app (k := k) hp fun e he => ⟨(h e he).1, fun mv hmv => (h e he).2 mv hmv k List.mem_cons_self⟩
    rw [h1]
    obtain ⟨g1, g2⟩ := races_app hp ks (found ++ ex) k2 fun e he => ⟨(h2 e he).1, fun mv hmv k' hk' => by
      have := (h2 e he).2 mv hmv
      have := k1 k' hk'
      omega⟩
    have orig : ∀ e ∈ found ++ ex, ∀ mv ∈ e.2, mv.1 = k ∨ ∃ e' ∈ found, mv ∈ e'.2 := by
      -- each move of race k, or older
      have hr : raceStep s r n places found k = found ++ ex := h1
      have key : ∀ (hs : List Nat) (f : Found), (∀ e ∈ f, ∀ mv ∈ e.2, mv.1 = k ∨ ∃ e' ∈ found, mv ∈ e'.2) → ∀ e ∈ hs.foldl (hereStep s r n places k) f, ∀ mv ∈ e.2, mv.1 = k ∨ ∃ e' ∈ found, mv ∈ e'.2 := by
        intro hs
        induction hs with
        | nil => exact fun f hf => hf
        | cons x hs ih =>
          intro f hf
          refine ih _ fun e he => ?_
          unfold hereStep at he
          obtain ⟨ex2, q1, q2, _⟩ := goals_app (places := places) (k := k) (here := x) (moves := (valD f x).getD []) (goalsOf s r n k x) f
          rw [q1] at he
          rcases List.mem_append.mp he with he | he
          · exact hf e he
          · intro mv hmv
            rw [(q2 e he).2.2.2] at hmv
            rcases List.mem_append.mp hmv with hmv | hmv
            · cases hv : valD f x with
              | none => rw [hv] at hmv; exact nomatch hmv
              | some v =>
                rw [hv] at hmv
                exact hf _ (valD_mem hv) mv hmv
            · rw [List.mem_singleton.mp hmv]
              exact .inl rfl
      have := key (heresOf s n found k) found fun e he mv hmv => .inr ⟨e, he, hmv⟩
      have e2 : (heresOf s n found k).foldl (hereStep s r n places k) found = found ++ ex := hr
      rw [e2] at this
      exact this
    refine ⟨fun e he => ⟨(g1 e he).1, fun mv hmv => ?_⟩, fun q hq g hg => ?_⟩
    · rcases (g1 e he).2 mv hmv with z | ⟨e', he', z⟩
      · exact .inl (List.mem_cons_of_mem _ z)
      · rcases orig e' he' mv z with z | z
        · exact .inl (by rw [z]; exact List.mem_cons_self)
        · exact .inr z
    · obtain ⟨p', hp', hg⟩ := hg
      refine g2 p' ?_ g hg
      rcases hp' with rfl | ⟨a, b, c, d⟩
      · rw [List.map_append]; exact List.mem_append_left _ hq
      · exact h3 q hq a b p' c d
theorem mf_path {p : Nat} : ∀ e ∈ mfD s r n places p, PthF s r n places e.2 p e.1 ∧ (∀ mv ∈ e.2, mv.1 < nRaces s n) ∧ (p ∈ places → e = (p, [])) := by
  unfold mfD
  by_cases hp : p ∈ places
  · rw [if_pos hp]
    intro e he
    rw [List.mem_singleton.mp he]
    exact ⟨rfl, (fun _ h => nomatch h), fun _ => rfl⟩
  · rw [if_neg hp]
    obtain ⟨g1, _⟩ := races_app (s := s) (r := r) (n := n) hp (downR s n) [(p, [])] (down_pair s n) fun e he => by
      rw [List.mem_singleton.mp he]
      exact ⟨rfl, fun _ h => nomatch h⟩
    intro e he
    refine ⟨(g1 e he).1, fun mv hmv => ?_, fun z => absurd z hp⟩
    rcases (g1 e he).2 mv hmv with z | ⟨e', he', z⟩
    · unfold downR at z
      rw [List.mem_reverse, List.mem_range] at z
      exact z
    · rw [List.mem_singleton.mp he'] at z
      exact nomatch z
theorem mf_goes {p q : Nat} (hp : p ∉ places) (h : Goes s r n places (downR s n) p q) : q ∈ (mfD s r n places p).map (·.1) := by
  unfold mfD
  rw [if_neg hp]
  exact (races_app (s := s) (r := r) (n := n) hp (downR s n) [(p, [])] (down_pair s n) fun e he => by
      rw [List.mem_singleton.mp he]
      exact ⟨rfl, fun _ h => nomatch h⟩).2 p (by simp) q h
theorem goes_self : ∀ (ks : List Nat) (p : Nat), Goes s r n places ks p p
  | [], _ => rfl
  | k :: ks, p => ⟨p, .inl rfl, goes_self ks p⟩
theorem mf_self (p : Nat) : p ∈ (mfD s r n places p).map (·.1) := by
  by_cases hp : p ∈ places
  · unfold mfD
    rw [if_pos hp]
    simp
  · exact mf_goes hp (goes_self _ _)
theorem mf_places {p q : Nat} (h : q ∈ (mfD s r n places p).map (·.1)) : q ∈ places → p = q := fun hq => by
  obtain ⟨e, he, rfl⟩ := List.mem_map.mp h
  obtain ⟨h1, _, h3⟩ := mf_path e he
  by_cases hp : p ∈ places
  · rw [h3 hp]
  · exact absurd hq (pth_end h1 hp)
end
/-! ### places further on -/
theorem fo_goal_keys {tfp : Found} {ways : Ways} : ∀ (gs : List Nat) (found : Here) (q : Nat), q ∈ (gs.foldl (foGoal tfp ways) found).map (·.1) ↔ q ∈ found.map (·.1) ∨ q ∈ gs
  | [], found, q => by simp
  | g :: gs, found, q => by
    rw [List.foldl_cons, fo_goal_keys gs]
    unfold foGoal
    by_cases c : g ∉ found.map (·.1)
    · rw [if_pos c, List.map_append, List.mem_append, List.mem_cons]
      simp only [List.map_cons, List.map_nil, List.mem_singleton]
      exact ⟨fun h => by rcases h with (h | h) | h <;> simp [h], fun h => by rcases h with h | h | h <;> simp [h]⟩
    · rw [if_neg c, List.mem_cons]
      have c : g ∈ found.map (·.1) := Classical.not_not.mp c
      exact ⟨fun h => h.elim .inl fun h => .inr (.inr h), fun h => h.elim .inl fun h => h.elim (fun e => .inl (e ▸ c)) .inr⟩
theorem fo_keys {tf : Nat → Found} {here : Here} {q : Nat} : q ∈ (foD tf here).map (·.1) ↔ ∃ p ∈ here.map (·.1), q ∈ (tf p).map (·.1) := by
  have key : ∀ (ps : List Nat) (found : Here), q ∈ (ps.foldl (foPlace tf here) found).map (·.1) ↔ q ∈ found.map (·.1) ∨ ∃ p ∈ ps, q ∈ (tf p).map (·.1) := by
    intro ps
    induction ps with
    | nil => intro found; simp
    | cons p ps ih =>
      intro found
      rw [List.foldl_cons, ih]
      unfold foPlace
      rw [fo_goal_keys, keysF_mem]
      constructor
      · rintro ((h | h) | ⟨p', h1, h2⟩)
        · exact .inl h
        · exact .inr ⟨p, List.mem_cons_self, h⟩
        · exact .inr ⟨p', List.mem_cons_of_mem _ h1, h2⟩
      · rintro (h | ⟨p', h1, h2⟩)
        · exact .inl (.inl h)
        · rcases List.mem_cons.mp h1 with rfl | h1
          · exact .inl (.inr h2)
          · exact .inr ⟨p', h1, h2⟩
  unfold foD
  rw [key]
  constructor
  · rintro (h | ⟨p, h1, h2⟩)
    · exact nomatch h
    · exact ⟨p, keysF_mem.mp h1, h2⟩
  · rintro ⟨p, h1, h2⟩
    exact .inr ⟨p, keysF_mem.mpr h1, h2⟩
/-- days one behind another by tf -/
def WaysF (tf : Nat → Found) : Ways → Nat → Nat → Prop
  | [], p, q => p = q
  | w :: ws, p, q => ∃ p', (p', w) ∈ tf p ∧ WaysF tf ws p' q
theorem ways_snoc {tf : Nat → Found} {w : List Mv} {a b : Nat} : ∀ {ws : Ways} {p : Nat}, WaysF tf ws p a → (b, w) ∈ tf a → WaysF tf (ws ++ [w]) p b
  | [], p, h, k => by
    have h : p = a := h
    subst h
    exact ⟨b, k, rfl⟩
  | v :: ws, p, h, k => by
    obtain ⟨p', h1, h2⟩ := h
    exact ⟨p', h1, ways_snoc h2 k⟩
theorem fo_ways {tf : Nat → Found} {here : Here} {p j : Nat} (h : ∀ e ∈ here, WaysF tf e.2 p e.1 ∧ e.2.length = j) : ∀ e ∈ foD tf here, WaysF tf e.2 p e.1 ∧ e.2.length = j + 1 := by
  have g1 : ∀ (a : Nat) (ways : Ways), WaysF tf ways p a → ways.length = j → ∀ (gs : List Nat) (found : Here), (∀ g ∈ gs, g ∈ (tf a).map (·.1)) → (∀ e ∈ found, WaysF tf e.2 p e.1 ∧ e.2.length = j + 1) → ∀ e ∈ gs.foldl (foGoal (tf a) ways) found, WaysF tf e.2 p e.1 ∧ e.2.length = j + 1 := by
    intro a ways hw hl gs
    induction gs with
    | nil => exact fun found _ h => h
    | cons g gs ih =>
      intro found hg h
      refine ih _ (fun x hx => hg x (List.mem_cons_of_mem _ hx)) fun e he => ?_
      unfold foGoal at he
      split at he
      · rcases List.mem_append.mp he with he | he
        · exact h e he
        · rw [List.mem_singleton.mp he]
          obtain ⟨v, hv, hm⟩ := valD_of_key (hg g List.mem_cons_self)
          rw [hv]
          exact ⟨ways_snoc hw hm, by simp [hl]⟩
      · exact h e he
  have g2 : ∀ (ps : List Nat) (found : Here), (∀ a ∈ ps, a ∈ here.map (·.1)) → (∀ e ∈ found, WaysF tf e.2 p e.1 ∧ e.2.length = j + 1) → ∀ e ∈ ps.foldl (foPlace tf here) found, WaysF tf e.2 p e.1 ∧ e.2.length = j + 1 := by
    intro ps
    induction ps with
    | nil => exact fun found _ h => h
    | cons a ps ih =>
      intro found ha hf
      refine ih _ (fun x hx => ha x (List.mem_cons_of_mem _ hx)) ?_
      obtain ⟨v, hv, hm⟩ := valD_of_key (ha a List.mem_cons_self)
      unfold foPlace
      rw [hv]
      exact g1 a v (h _ hm).1 (h _ hm).2 _ _ (fun g hg => keysF_mem.mp hg) hf
  exact g2 _ _ (fun a ha => keysF_mem.mp ha) fun e he => nomatch he
theorem here_ways {tf : Nat → Found} {p : Nat} : ∀ j, ∀ e ∈ hereAt tf p j, WaysF tf e.2 p e.1 ∧ e.2.length = j
  | 0 => fun e he => by
    have : e = (p, []) := by simpa [hereAt] using he
    rw [this]
    exact ⟨rfl, rfl⟩
  | j + 1 => fo_ways (here_ways j)
theorem here_ok {s r p : Nat} {row resting : List Str} (hn : row.length ≤ 100) (hp : p < row.length) (j : Nat) : ((hereAt (tfOf s r row resting) p j).map (·.1)).Nodup ∧ ∀ q ∈ (hereAt (tfOf s r row resting) p j).map (·.1), q < row.length :=
  have h := hereAt_ok hp (tf_ok (s := s) (r := r) (row := row) (resting := resting) hn) j
  ⟨h.nd, h.lt⟩
/-! ### who can be head -/
theorem days_made {s r n : Nat} {places : List Nat} {resting row : List Str} (s0 : 0 < s) (s1 : s < 1000) (n0 : 0 < n) (n1 : n ≤ 24) (hg : GoodNames row) : ∀ (ws : Ways) (R : List Str) (acc : List (List Sheet)) (p q : Nat), R.Perm row → R.Nodup → R.length = n → Stat places resting R → WaysF (mfD s r n places) ws p q →
    ∃ days R', ws.foldl (daysStep s n resting) (R, acc) = (R', acc ++ days) ∧ GoodDays s r resting days R ∧ days.length = ws.length ∧ endDays s days R = R' ∧ R'[q]? = R[p]? ∧ R'.Perm R
  | [], R, acc, p, q, hp, nd, hl, hs, hw => by
    have hw : p = q := hw
    subst hw
    exact ⟨[], R, by simp, trivial, rfl, rfl, rfl, .refl _⟩
  | w :: ws, R, acc, p, q, hp, nd, hl, hs, hw => by
    obtain ⟨p', h1, h2⟩ := hw
    obtain ⟨g1, g2, _⟩ := mf_path _ h1
    dsimp only at g1 g2
    rw [← hl] at g1 g2
    obtain ⟨d1, d2, d3, d4, d5⟩ := day_made s0 s1 (by omega) (by omega) nd hs (fun x hx => hg x (hp.mem_iff.mp hx)) g1 g2
    rw [List.foldl_cons]
    unfold daysStep
    dsimp only
    rw [← hl]
    rw [← hl] at h2
    obtain ⟨days, R', f1, f2, f3, f4, f5, f6⟩ := days_made s0 s1 (n := R.length) (by omega) (by omega) hg ws (dayBy s R.length resting w R).1 (acc ++ [(dayBy s R.length resting w R).2.reverse]) p' q (d3.trans hp) (d3.nodup_iff.mpr nd) d3.length_eq d4 h2
    unfold daysStep at f1
    refine ⟨(dayBy s R.length resting w R).2.reverse :: days, R', by rw [f1, List.append_assoc]; rfl, ⟨d1, by rw [d2]; exact f2⟩, by rw [List.length_cons, List.length_cons, f3], ?_, by rw [f5, d5], f6.trans d3⟩
    show endDays s days (endD s R.length (dayBy s R.length resting w R).2.reverse (downR s R.length) R) = R'
    rw [d2]
    exact f4
theorem head_can {s r many p : Nat} {row resting : List Str} (C : Ctx s r row resting) (hp : p < row.length) (h : 0 ∈ (hereAt (tfOf s r row resting) p many).map (·.1)) :
    GoodDays s r resting (daysBy s row.length resting (waysTo0 (tfOf s r row resting) many p) row).2 row ∧ (daysBy s row.length resting (waysTo0 (tfOf s r row resting) many p) row).2.length = many ∧
      endDays s (daysBy s row.length resting (waysTo0 (tfOf s r row resting) many p) row).2 row ≠ [] ∧ (endDays s (daysBy s row.length resting (waysTo0 (tfOf s r row resting) many p) row).2 row).getD 0 default = row.getD p default := by
  have s1 := C.s1
  have n0 := C.n0
  have n1 := C.n1
  obtain ⟨v, hv, hm⟩ := valD_of_key h
  obtain ⟨w1, w2⟩ := here_ways (tf := tfOf s r row resting) many _ hm
  dsimp only at w1 w2
  have ew : waysTo0 (tfOf s r row resting) many p = v := by
    unfold waysTo0
    rw [hv]
    rfl
  rw [ew]
  obtain ⟨days, R', f1, f2, f3, f4, f5, f6⟩ := days_made (r := r) C.s0 (by omega) n0 (by omega) C.good v row [] p 0 (.refl _) C.nd rfl (stat_places row resting) w1
  rw [List.nil_append] at f1
  have f1 : daysBy s row.length resting v row = (R', days) := f1
  rw [f1]
  dsimp only
  rw [f4]
  refine ⟨f2, by rw [f3, w2], fun e => ?_, ?_⟩
  · have := f6.length_eq
    rw [e] at this
    simp at this
    omega
  · rw [List.getD_eq_getElem?_getD, List.getD_eq_getElem?_getD, f5]
theorem keysF_lt {α : Type} {l : List (Nat × α)} (nd : (l.map (·.1)).Nodup) : (keysF l).Pairwise (· < ·) := by
  have h1 := sortN_le (l.map (·.1))
  have h2 : (keysF l).Nodup := (sortN_perm _).nodup_iff.mpr nd
  exact List.Pairwise.imp₂ (fun a b h h' => by omega) h1 h2
theorem sets_get {tf : Nat → Found} {many p j : Nat} (h : j < many + 1) : (setsOf tf many p)[j]? = some (keysF (hereAt tf p j)) := by
  unfold setsOf
  rw [List.getElem?_map, List.getElem?_range h]
  rfl
theorem head_cannot {s r many p : Nat} {row resting : List Str} (C : Ctx s r row resting) (hm : many ≤ 4) (hp : p < row.length) (h : 0 ∉ (hereAt (tfOf s r row resting) p many).map (·.1)) :
    CanNot s r row resting many (row.getD p default) (setsOf (tfOf s r row resting) many p) := by
  have s1 := C.s1
  have r1 := C.r1
  have n1 := C.n1
  have gp : row[p]? = some (row.getD p default) := by rw [getD_at (List.getElem?_eq_getElem hp)]; exact List.getElem?_eq_getElem hp
  have sl : (setsOf (tfOf s r row resting) many p).length = many + 1 := by simp [setsOf]
  refine ⟨C.s0, by omega, by omega, by omega, sl, by omega, fun st hst => ?_, List.mem_of_getElem? gp, ⟨_, sets_get (by omega), ?_⟩, ⟨_, sets_get (by omega), fun z => h (keysF_mem.mp z)⟩, fun pr hpr q hq g hg => ?_⟩
  · unfold setsOf at hst
    obtain ⟨j, _, rfl⟩ := List.mem_map.mp hst
    obtain ⟨o1, o2⟩ := here_ok (s := s) (r := r) (resting := resting) (by omega) hp j
    refine ⟨fun q hq => o2 q (keysF_mem.mp hq), keysF_lt o1, ?_⟩
    have hs : (hereAt (tfOf s r row resting) p j).map (·.1) ⊆ List.range row.length := fun q hq => List.mem_range.mpr (o2 q hq)
    have := List.Nodup.length_le_of_subset o1 hs
    rw [List.length_range] at this
    rw [(sortN_perm _).length_eq]
    omega
  · rw [idx_at C.nd gp]
    exact keysF_mem.mpr (by simp [hereAt])
  · obtain ⟨i, hi⟩ := List.mem_iff_getElem?.mp hpr
    obtain ⟨a, b⟩ := pr
    rw [List.getElem?_zip_eq_some] at hi
    obtain ⟨h1, h2⟩ := hi
    rw [List.getElem?_drop] at h2
    have i2 : 1 + i < many + 1 := by
      have := (List.getElem?_eq_some_iff.mp h2).1
      omega
    dsimp only at hq h1 h2 ⊢
    rw [sets_get (by omega)] at h1 h2
    rw [← Option.some.inj h1] at hq
    rw [← Option.some.inj h2, Nat.add_comm 1 i]
    exact keysF_mem.mpr (fo_keys.mpr ⟨q, keysF_mem.mp hq, keysF_mem.mp hg⟩)
/-! ### a drawn day keeps to the places told -/
theorem raced_at {start : List Str} : ∀ (l : Sheet) (R : List Str), (∀ e ∈ l, e.length = 3) → (names l).Nodup → (∀ x ∈ names l, x ∈ start) → R.length = start.length →
    (∀ i, (∀ z ∈ names l, start.idxOf z ≠ i) → (l.foldl (racedStep start) R)[i]? = R[i]?) ∧ ∀ t x y, [t, x, y] ∈ l → (l.foldl (racedStep start) R)[start.idxOf y]? = some x ∧ (l.foldl (racedStep start) R)[start.idxOf x]? = some y
  | [], R, _, _, _, _ => ⟨fun _ _ => rfl, fun _ _ _ h => nomatch h⟩
  | e :: l, R, h3, nd, hin, hl => by
    have e1 : names (e :: l) = e.drop 1 ++ names l := rfl
    rw [e1] at nd hin
    match e, h3 e List.mem_cons_self with
    | [t, x, y], _ =>
      obtain ⟨n1, n2, n3⟩ := List.nodup_append.mp nd
      have hx : x ∈ start := hin x (by simp)
      have hy : y ∈ start := hin y (by simp)
      have nxy : x ≠ y := by
        have : [x, y].Nodup := n1
        simpa using this
      have ixy : start.idxOf x ≠ start.idxOf y := fun e => nxy (idx_inj hx hy e)
      have lx : start.idxOf x < start.length := List.idxOf_lt_length_of_mem hx
      have ly : start.idxOf y < start.length := List.idxOf_lt_length_of_mem hy
      have es : racedStep start R [t, x, y] = (R.set (start.idxOf y) x).set (start.idxOf x) y := by
        unfold racedStep
        show (R.set (start.idxOf y) (start.getD (start.idxOf x) default)).set (start.idxOf x) (start.getD (start.idxOf y) default) = _
        rw [getD_at (at_idx hx), getD_at (at_idx hy)]
      rw [List.foldl_cons, es]
      obtain ⟨f1, f2⟩ := raced_at l ((R.set (start.idxOf y) x).set (start.idxOf x) y) (fun z hz => h3 z (List.mem_cons_of_mem _ hz)) n2 (fun z hz => hin z (List.mem_append_right _ hz)) (by simp [hl])
      have off : ∀ u, u = x ∨ u = y → ∀ z ∈ names l, start.idxOf z ≠ start.idxOf u := fun u hu z hz e => by
        have hzs : z ∈ start := hin z (List.mem_append_right _ hz)
        rcases hu with rfl | rfl
        · exact n3 u (by simp) z hz (idx_inj hzs hx e).symm
        · exact n3 u (by simp) z hz (idx_inj hzs hy e).symm
      refine ⟨fun i hi => ?_, fun t' x' y' hm => ?_⟩
      · rw [e1] at hi
        rw [f1 i fun z hz => hi z (List.mem_append_right _ hz), List.getElem?_set_ne (hi x (by simp)), List.getElem?_set_ne (hi y (by simp))]
      · rcases List.mem_cons.mp hm with hm | hm
        · obtain ⟨rfl, rfl, rfl⟩ : t' = t ∧ x' = x ∧ y' = y := by simpa using hm
          rw [f1 _ (off y' (.inr rfl)), f1 _ (off x' (.inl rfl)), List.getElem?_set_ne ixy, List.getElem?_set_self (by rw [hl]; exact ly), List.getElem?_set_self (by rw [List.length_set, hl]; exact lx)]
          exact ⟨rfl, rfl⟩
        · exact f2 t' x' y' hm
theorem between_len_eq {start : List Str} {x y : Str} (hx : x ∈ start) (hy : y ∈ start) (h : start.idxOf y < start.idxOf x) : (between start x y).length = start.idxOf x - start.idxOf y - 1 := by
  have lx : start.idxOf x < start.length := List.idxOf_lt_length_of_mem hx
  unfold between
  rw [List.length_take, List.length_drop]
  omega
/-- each boat stays, or exchanges with another one; none of both rests -/
theorem raced_pos {reach : Nat} {start resting : List Str} {F : Sheet} (h : Snd start reach F) (hk : ∀ e ∈ F, (∃ b, e = [sDrop, b]) ∨ ∀ b ∈ e.drop 1, b ∉ resting) {w : Str} (hw : w ∈ start) :
    (racedR start F)[start.idxOf w]? = some w ∨ ∃ z ∈ start, w ∉ resting ∧ z ∉ resting ∧ (racedR start F)[start.idxOf w]? = some z ∧ (racedR start F)[start.idxOf z]? = some w ∧ start.idxOf w ≤ start.idxOf z + 1 + reach ∧ start.idxOf z ≤ start.idxOf w + 1 + reach := by
  have t3 := touch_len h.form
  have sub := names_sub (touches_sub (es := F))
  obtain ⟨f1, f2⟩ := raced_at (start := start) (touchesOf F) start t3 (h.nd.sublist sub) (fun x hx => h.inn x (sub.subset hx)) rfl
  by_cases c : w ∈ names (touchesOf F)
  · refine .inr ?_
    obtain ⟨e, he, hwe⟩ := List.mem_flatMap.mp c
    obtain ⟨x, y, rfl, hm⟩ := touch_mem h.form he
    have hx : x ∈ start := h.inn x (names_mem hm (by simp))
    have hy : y ∈ start := h.inn y (names_mem hm (by simp))
    obtain ⟨t1, t2, _⟩ := h.tch x y hm
    rw [between_len_eq hx hy t1] at t2
    obtain ⟨g1, g2⟩ := f2 _ x y he
    have nr : ∀ b ∈ [x, y], b ∉ resting := by
      rcases hk _ hm with ⟨b, hb⟩ | hb
      · exact (drop_touch hb).elim
      · exact hb
    have : w = x ∨ w = y := by simpa using hwe
    rcases this with rfl | rfl
    · exact ⟨y, hy, nr _ (by simp), nr _ (by simp), g2, g1, by omega, by omega⟩
    · exact ⟨x, hx, nr _ (by simp), nr _ (by simp), g1, g2, by omega, by omega⟩
  · refine .inl ?_
    show ((touchesOf F).foldl (racedStep start) start)[start.idxOf w]? = some w
    rw [f1 _ fun z hz e => c (by rw [← idx_inj (h.inn z (sub.subset hz)) hw e]; exact hz)]
    exact at_idx hw
section
variable {s r n : Nat} {places : List Nat} {resting : List Str}
theorem race_goes {row : List Str} {k : Nat} {F : Sheet} (hl : row.length = n) (hk : k * s < n) (nd : row.Nodup) (hs : Stat places resting row) (h : Snd (cutR s n k row) r F) (hF : ∀ e ∈ F, (∃ b, e = [sDrop, b]) ∨ ∀ b ∈ e.drop 1, b ∉ resting) :
    Stat places resting (layR s n k row (racedR (cutR s n k row) F)) ∧ ∀ i b, row[i]? = some b → ∃ i', (layR s n k row (racedR (cutR s n k row) F))[i']? = some b ∧ (i' = i ∨ (k * s ≤ i ∧ i ≤ min (k * s + s) (n - 1) ∧ i' ∈ goalsOf s r n k i ∧ i' ∉ places)) ∧ (b ∈ resting → i' = i) := by
  have cn : (cutR s n k row).Nodup := cutR_nodup nd
  have cl := cutR_length (s := s) hl hk
  have rl : (racedR (cutR s n k row) F).length = min (k * s + s) (n - 1) + 1 - k * s := by rw [← cl]; exact raced_length _ _ _
  have lg := lay_get hl hk rl
  have cg : ∀ {i z}, k * s ≤ i → i ≤ min (k * s + s) (n - 1) → row[i]? = some z → (cutR s n k row)[i - k * s]? = some z := fun {i z} h1 h2 h3 => by
    rw [cut_get, if_pos (by omega), show k * s + (i - k * s) = i from by omega]
    exact h3
  have back : ∀ {z}, z ∈ cutR s n k row → row[k * s + (cutR s n k row).idxOf z]? = some z ∧ k * s + (cutR s n k row).idxOf z ≤ min (k * s + s) (n - 1) := fun {z} hz => by
    have h1 := at_idx hz
    have h2 : (cutR s n k row).idxOf z < (cutR s n k row).length := List.idxOf_lt_length_of_mem hz
    rw [cut_get, if_pos (by omega)] at h1
    exact ⟨h1, by omega⟩
  have inside : ∀ {i}, k * s ≤ i → i ≤ min (k * s + s) (n - 1) → (layR s n k row (racedR (cutR s n k row) F))[i]? = (racedR (cutR s n k row) F)[i - k * s]? := fun {i} h1 h2 => by
    rw [lg i, if_neg (by omega), if_pos h2]
  have outside : ∀ {i}, ¬ (k * s ≤ i ∧ i ≤ min (k * s + s) (n - 1)) → (layR s n k row (racedR (cutR s n k row) F))[i]? = row[i]? := fun {i} h1 => by
    rw [lg i]
    by_cases c : i < k * s
    · rw [if_pos c]
    · rw [if_neg c, if_neg (by omega)]
  refine ⟨fun i x e => ?_, fun i b hb => ?_⟩
  · by_cases c : k * s ≤ i ∧ i ≤ min (k * s + s) (n - 1)
    · have hi : i < row.length := by omega
      have gw := cg c.1 c.2 (List.getElem?_eq_getElem hi)
      have hw := List.mem_of_getElem? gw
      have iw := idx_at cn gw
      have sw := hs i _ (List.getElem?_eq_getElem hi)
      rw [inside c.1 c.2] at e
      rcases raced_pos h hF hw with z | ⟨z, hz, nw, nz, z1, _, _, _⟩
      · rw [iw, e] at z
        rw [Option.some.inj z]
        exact sw
      · rw [iw, e] at z1
        rw [Option.some.inj z1]
        exact ⟨fun q => absurd q nz, fun q => absurd (sw.mpr q) nw⟩
    · rw [outside c] at e
      exact hs i x e
  · by_cases c : k * s ≤ i ∧ i ≤ min (k * s + s) (n - 1)
    · have gw := cg c.1 c.2 hb
      have hw := List.mem_of_getElem? gw
      have iw := idx_at cn gw
      rcases raced_pos h hF hw with z | ⟨z, hz, nw, nz, _, z2, z3, z4⟩
      · rw [iw] at z
        exact ⟨i, by rw [inside c.1 c.2]; exact z, .inl rfl, fun _ => rfl⟩
      · obtain ⟨b1, b2⟩ := back hz
        rw [iw] at z3 z4
        refine ⟨k * s + (cutR s n k row).idxOf z, ?_, .inr ⟨c.1, c.2, mem_goals.mpr ⟨by omega, b2, by omega, by omega⟩, fun q => nz ((hs _ _ b1).mpr q)⟩, fun q => absurd q nw⟩
        rw [inside (by omega) b2, show k * s + (cutR s n k row).idxOf z - k * s = (cutR s n k row).idxOf z from by omega]
        exact z2
    · exact ⟨i, by rw [outside c]; exact hb, .inl rfl, fun _ => rfl⟩
theorem drawn_goes (nr : resting.Nodup) (hn : n ≤ 500) : ∀ {ks : List Nat} {row row' : List Str} {shs : List Sheet}, DrawnK s r n resting ks row shs row' → row.length = n → row.Nodup → (∀ k ∈ ks, k * s < n) → Stat places resting row →
    Stat places resting row' ∧ ∀ i b, row[i]? = some b → ∃ i', row'[i']? = some b ∧ Goes s r n places ks i i' ∧ (b ∈ resting → i' = i)
  | [], row, row', shs, h, _, _, _, hs => by
    obtain ⟨rfl, rfl⟩ := h
    exact ⟨hs, fun i b hb => ⟨i, hb, rfl, fun _ => rfl⟩⟩
  | k :: ks, row, row', shs, h, hl, nd, hk, hs => by
    obtain ⟨ws, shs', h1, h2, rfl, h3⟩ := h
    have hk0 := hk k List.mem_cons_self
    have cn : (cutR s n k row).Nodup := cutR_nodup nd
    have cl := cutR_length (s := s) hl hk0
    obtain ⟨a1, a2, _⟩ := final_all (reach := r) (resting := resting) h1 h2 cn nr
    obtain ⟨so, _⟩ := a1.sound (by omega)
    have p := lay_perm hl hk0 (raced_perm so cn)
    obtain ⟨g1, g2⟩ := race_goes hl hk0 nd hs a1 a2
    obtain ⟨f1, f2⟩ := drawn_goes nr hn h3 (by rw [p.length_eq]; exact hl) (p.nodup_iff.mpr nd) (fun x hx => hk x (List.mem_cons_of_mem _ hx)) g1
    refine ⟨f1, fun i b hb => ?_⟩
    obtain ⟨i', c1, c2, c3⟩ := g2 i b hb
    obtain ⟨i'', d1, d2, d3⟩ := f2 i' b c1
    exact ⟨i'', d1, ⟨i', c2, d2⟩, fun q => by rw [d3 q, c3 q]⟩
end
theorem track_day {s r i : Nat} {b : Str} {row resting R R' : List Str} {shs : List Sheet} (C : Ctx s r row resting) (hp : R.Perm row) (hs : Stat (placesOf row resting) resting R) (h : DrawnK s r R.length resting (downR s R.length) R shs R') (hb : R[i]? = some b) :
    Stat (placesOf row resting) resting R' ∧ ∃ i', R'[i']? = some b ∧ i' ∈ (tfOf s r row resting i).map (·.1) := by
  have n1 := C.n1
  have n0 := C.n0
  obtain ⟨l, nd⟩ := C.len hp
  obtain ⟨g1, g2⟩ := drawn_goes (places := placesOf row resting) C.ndr (by omega) h rfl nd (fun k hk => (mem_down hk C.s0 (by omega)).2) hs
  obtain ⟨i', c1, c2, c3⟩ := g2 i b hb
  refine ⟨g1, i', c1, ?_⟩
  unfold tfOf
  rw [← l]
  by_cases c : i ∈ placesOf row resting
  · rw [c3 ((hs i b hb).mpr c)]
    exact mf_self i
  · exact mf_goes c c2
theorem track_go {s r p : Nat} {b : Str} {row resting : List Str} (C : Ctx s r row resting) : ∀ (rows : List (List Str)) (R0 : List Str) (i c : Nat), Chain s r resting (R0 :: rows) → R0.Perm row → Stat (placesOf row resting) resting R0 → R0[c]? = some b → c ∈ (hereAt (tfOf s r row resting) p i).map (·.1) →
    ∀ j R, (R0 :: rows)[j]? = some R → R.Perm row ∧ ∃ c', R[c']? = some b ∧ c' ∈ (hereAt (tfOf s r row resting) p (i + j)).map (·.1)
  | rows, R0, i, c, hc, hp, hs, hb, hi, 0, R, hR => by
    have : R0 = R := by simpa using hR
    subst this
    exact ⟨hp, c, hb, hi⟩
  | [], R0, i, c, hc, hp, hs, hb, hi, j + 1, R, hR => by simp at hR
  | R1 :: rows, R0, i, c, hc, hp, hs, hb, hi, j + 1, R, hR => by
    obtain ⟨⟨shs, hd⟩, hc⟩ := hc
    obtain ⟨s1, c', b1, b2⟩ := track_day C hp hs hd hb
    have := track_go C rows R1 (i + 1) c' hc (drawn_perm C hp hd) s1 b1 (fo_keys.mpr ⟨c, hi, b2⟩) j R (by simpa using hR)
    rw [show i + (j + 1) = i + 1 + j from by omega]
    exact this
theorem track {s r p j : Nat} {row resting R : List Str} {rows : List (List Str)} (C : Ctx s r row resting) (hp : p < row.length) (hc : Chain s r resting (row :: rows)) (hj : (row :: rows)[j]? = some R) :
    R.Perm row ∧ R.idxOf (row.getD p default) ∈ keysF (hereAt (tfOf s r row resting) p j) := by
  have gp : row[p]? = some (row.getD p default) := by rw [getD_at (List.getElem?_eq_getElem hp)]; exact List.getElem?_eq_getElem hp
  obtain ⟨h1, c', h2, h3⟩ := track_go (p := p) C rows row 0 p hc (.refl _) (stat_places row resting) gp (by simp [hereAt]) j R hj
  refine ⟨h1, keysF_mem.mpr ?_⟩
  rw [idx_at (C.len h1).2 h2]
  rw [Nat.zero_add] at h3
  exact h3
theorem track1 {s r p : Nat} {row resting R : List Str} {rows : List (List Str)} (C : Ctx s r row resting) (hp : p < row.length) (hc : Chain s r resting (row :: R :: rows)) : row.getD p default ∈ R ∧ R.idxOf (row.getD p default) ∈ keysF (tfOf s r row resting p) := by
  have gp : row[p]? = some (row.getD p default) := by rw [getD_at (List.getElem?_eq_getElem hp)]; exact List.getElem?_eq_getElem hp
  obtain ⟨⟨shs, hd⟩, _⟩ := hc
  obtain ⟨_, c', b1, b2⟩ := track_day C (.refl _) (stat_places row resting) hd gp
  refine ⟨List.mem_of_getElem? b1, keysF_mem.mpr ?_⟩
  rw [idx_at (C.len (drawn_perm C (.refl _) hd)).2 b1]
  exact b2
theorem rest_head {s r p many : Nat} {row resting : List Str} (C : Ctx s r row resting) (hp : p < row.length) (hr : row.getD 0 default ∈ resting) : 0 ∈ (hereAt (tfOf s r row resting) p many).map (·.1) ↔ p = 0 := by
  have g0 : row[0]? = some (row.getD 0 default) := by rw [getD_at (List.getElem?_eq_getElem C.n0)]; exact List.getElem?_eq_getElem C.n0
  have h0 : 0 ∈ placesOf row resting := (stat_places row resting 0 _ g0).mp hr
  induction many with
  | zero => simp [hereAt, eq_comm]
  | succ j ih =>
    show 0 ∈ (foD (tfOf s r row resting) (hereAt (tfOf s r row resting) p j)).map (·.1) ↔ _
    refine fo_keys.trans (Iff.trans ?_ ih)
    constructor
    · rintro ⟨q, h1, h2⟩
      have := mf_places h2 h0
      exact this ▸ h1
    · intro h
      exact ⟨0, h, mf_self 0⟩
theorem more_days {s r p many : Nat} {row resting : List Str} (C : Ctx s r row resting) (hp : p < row.length) (h : 0 ∈ (hereAt (tfOf s r row resting) p many).map (·.1)) : 0 ∈ (hereAt (tfOf s r row resting) p (many + 1)).map (·.1) :=
  fo_keys.mpr ⟨0, h, mf_self 0⟩
end TB
set_option Elab.async false
set_option linter.all false
set_option autoImplicit false
set_option maxRecDepth 100000
set_option maxHeartbeats 4000000
/-! the law's own def. -/
namespace TB
open PySem PySem.Spec PyProof.Rows L2 RT
local macro_rules | `(tactic| walk_at "ev1") => `(tactic| first
  | ((with_reducible apply ev_var); rfl)
  | with_reducible exact ev_ci
  | with_reducible exact ev_cs
  | with_reducible exact ev_cb
  | with_reducible exact ev_cn
  | with_reducible apply ev_op
  | with_reducible apply ev_tup
  | with_reducible apply ev_isN
  | with_reducible apply ev_notN
  | with_reducible apply ev_notV
  | with_reducible exact op_I0i
  | with_reducible exact op_I0b
  | with_reducible exact op_eqS
  | with_reducible exact op_eqI
  | with_reducible exact op_neS
  | with_reducible exact op_neI
  | with_reducible exact op_isB
  | with_reducible exact op_inTS
  | with_reducible exact op_niTS
  | with_reducible exact op_inTI
  | with_reducible exact op_niTI
  | with_reducible apply op_ixT
  | with_reducible apply op_catT
  | with_reducible exact ea_nil
  | ((with_reducible show List.length _ ≤ 100000); first | decide | (simp <;> omega))
  | with_reducible apply ea_cons
  | with_reducible apply et_test
  | with_reducible apply et_B
  | with_reducible exact et_yes
  | with_reducible apply et_not
  | with_reducible exact ca_lenT
  | with_reducible exact ca_max
  | with_reducible exact ca_min
  | with_reducible exact eo_none
  | with_reducible apply eo_some
  | with_reducible apply ev_slT)
local macro_rules | `(tactic| walk_at "ev") => `(tactic| repeat' walk_at "ev1")
local macro_rules | `(tactic| walk_at "ev2") => `(tactic| repeat' first
  | walk_at "ev1"
  | (with_reducible apply op_mulN <;> omega)
  | (with_reducible apply op_divN <;> omega)
  | with_reducible apply ev_cbA
  | with_reducible apply ev_chain
  | with_reducible apply ev_if
  | with_reducible apply et_and
  | with_reducible apply et_or
  | with_reducible apply ev_andV
  | with_reducible apply ev_orV)

section
variable {P : Program} {w : World} {K : PySem.W.Frag} {mg : Str → Option Value} {base : Heap}
theorem op_add1 {m : Mp} {v : Nat} : Op (rI0 fun i j => .int (i + j)) (.int 1) (.int (v : Nat)) m (.int ((1 + v : Nat) : Int)) := Op.is op_I0i (congrArg Dt.int (by omega))
/-- the sorted row of those that rest -/
def sortStr (xs : List Str) : List Str := xs.mergeSort fun x y => leD (.str x) (.str y)
theorem ca_sortStr {m : Mp} {a : Addr} {xs : List Str} (hm : m a = some (.lst (xs.map .str))) : CaN (rSortD K) [.ref a] m (.lst ((sortStr xs).map .str)) := by
  have e : ((sortStr xs).map Dt.str) = (xs.map Dt.str).mergeSort leD := List.map_mergeSort (f := Dt.str) (l := xs) fun _ _ _ _ => rfl
  rw [e]
  refine ca_sortD hm (fun d hd => ?_) (fun d hd d' hd' => ?_) (.inr ?_) fun d hd => ?_
  · obtain ⟨x, _, rfl⟩ := List.mem_map.mp hd
    rfl
  · rw [List.map_map] at hd hd'
    obtain ⟨x, _, rfl⟩ := List.mem_map.mp hd
    obtain ⟨x', _, rfl⟩ := List.mem_map.mp hd'
    rfl
  · intro d hd
    rw [List.map_map] at hd
    obtain ⟨x, _, rfl⟩ := List.mem_map.mp hd
    exact ⟨nofun, nofun⟩
  · obtain ⟨x, _, rfl⟩ := List.mem_map.mp hd
    show PyData.depth (.str x) ≤ 60
    simp [PyData.depth]
theorem pys_strs (xs : List Str) : pys (xs.map Dt.str) = xs.map PyData.str := by
  have h : PyData.tuple (pys (xs.map Dt.str)) = PyData.tuple (xs.map PyData.str) := py_encT xs
  exact PyData.tuple.inj h
theorem shaped_strs {xs : List Str} (h : okT xs) : SeqAt.shaped (.list (pys (xs.map Dt.str))) = true := by
  have h1 := depth_encT xs
  rw [py_encT] at h1
  unfold SeqAt.shaped
  rw [pys_strs, PyData.canLay0, can_strs xs h]
  rw [PyData.depth] at h1
  rw [PyData.depth, h1]
  rfl
theorem pures_strs (xs : List Str) : pures (xs.map Dt.str) = true := by
  have := pure_encT xs
  simpa [TB.pure] using this
theorem op_neStrs {m : Mp} {a b : Addr} {xs ys : List Str} (ha : m a = some (.lst (xs.map .str))) (hb : m b = some (.lst (ys.map .str))) (hx : okT xs) (hy : okT ys) : Op (rNeD K) (.ref a) (.ref b) m (.bl (!decide (xs = ys))) := by
  have h := op_neLL (K := K) ha hb (pures_strs xs) (pures_strs ys) (shaped_strs hx) (shaped_strs hy)
  rw [pys_strs, pys_strs, PyData.eqv, eqv_strs] at h
  exact h
theorem fst_zip (row : List Str) : ((row.zipIdx.filter fun _ => true).map fun q => Dt.str q.1) = row.map Dt.str := by
  rw [filter_tt]
  have : (row.zipIdx.map fun q => Dt.str q.1) = (row.zipIdx.map (·.1)).map Dt.str := by rw [List.map_map]; rfl
  rw [this, List.zipIdx_map_fst]
theorem nr_le {s n : Nat} (h0 : 0 < s) (h2 : 0 < n) (h8 : n ≤ 8) : nRaces s n * n ≤ 64 := by
  have hdn : nRaces s n ≤ n := by
    unfold nRaces
    refine Nat.div_le_of_le_mul ?_
    have h6 : s + n ≤ s * n + 1 := by
      obtain ⟨s', rfl⟩ : ∃ s', s = s' + 1 := ⟨s - 1, by omega⟩
      rw [Nat.add_mul]
      have : s' ≤ s' * n := Nat.le_mul_of_pos_right _ h2
      omega
    omega
  exact Nat.mul_le_mul (Nat.le_trans hdn h8) h8
theorem dsh : ∀ xs : List Str, PyData.showableAll (xs.map .str) = true
  | [] => by simp [PyData.showableAll]
  | x :: xs => by simp [PyData.showableAll, PyData.showable, dsh xs]
theorem dhd : ∀ xs : List Str, PyData.hasDictAll (xs.map .str) = false
  | [] => by simp [PyData.hasDictAll]
  | x :: xs => by simp [PyData.hasDictAll, PyData.hasDict, dhd xs]
theorem dls : ∀ xs : List Str, (∀ x ∈ xs, goodName x) → PyData.leavesShortAll 8 (xs.map .str) = true
  | [], _ => by simp [PyData.leavesShortAll]
  | x :: xs, h => by
    have hx := (h x List.mem_cons_self).2.2
    rw [List.map_cons, PyData.leavesShortAll, dls xs fun y hy => h y (List.mem_cons_of_mem _ hy), PyData.leavesShort, Bool.and_true]
    refine List.all_eq_true.mpr fun c hc => decide_eq_true ?_
    have := hx c hc
    omega
theorem dwt : ∀ xs : List Str, (∀ x ∈ xs, goodName x) → PyData.weightAll (xs.map .str) ≤ 9 * xs.length
  | [], _ => by simp [PyData.weightAll]
  | x :: xs, h => by
    have hx : x.cps.size ≤ 8 := (h x List.mem_cons_self).2.1
    have := dwt xs fun y hy => h y (List.mem_cons_of_mem _ hy)
    rw [List.map_cons, PyData.weightAll, PyData.weight, List.length_cons]
    omega
theorem rowTup_fits {row : List Str} (hl : row.length ≤ 8) (h : ∀ x ∈ row, goodName x) : PyData.showable (.tuple (pys [.str "row", encT row])) = true ∧ PyData.hasDict (.tuple (pys [.str "row", encT row])) = false ∧ PyData.depth (.tuple (pys [.str "row", encT row])) ≤ 50 ∧ (PyData.shown (.tuple (pys [.str "row", encT row]))).length ≤ sizeLine := by
  have e : pys [.str "row", encT row] = [PyData.str "row", .tuple (row.map .str)] := by rw [pys, pys, pys, py_encT, py]
  rw [e]
  have hw := dwt row h
  refine ⟨by simp [PyData.showable, PyData.showableAll, dsh], by simp [PyData.hasDict, PyData.hasDictAll, dhd], ?_, PyData.shown_fits (B := 8) (by decide) (by decide) ?_ ?_⟩
  · have h1 := depth_encT row
    rw [py_encT] at h1
    rw [PyData.depth, PyData.depthAll, PyData.depthAll, PyData.depthAll, h1]
    simp [PyData.depth]
  · rw [PyData.leavesShort, PyData.leavesShortAll, PyData.leavesShortAll, PyData.leavesShortAll, PyData.leavesShort, PyData.leavesShort, dls row h]
    decide +kernel
  · have h3 : ("row" : Str).cps.size = 3 := by decide +kernel
    simp only [PyData.weight, PyData.weightAll, h3]
    omega
theorem valD_zip {α : Type} (f : Nat → α) : ∀ (row : List Str) (k p : Nat) (x : Str), row.Nodup → row[p]? = some x → valD (row.zipIdx k |>.map fun q => ((Sum.inr q.1 : Key), f q.2)) (Sum.inr x) = some (f (k + p))
  | [], _, _, _, _, h => by simp at h
  | y :: ys, k, 0, x, nd, h => by
    have : y = x := by simpa using h
    subst this
    simp [valD]
  | y :: ys, k, p + 1, x, nd, h => by
    have h2 : ys[p]? = some x := by simpa using h
    have ne : y ≠ x := fun e => (List.nodup_cons.mp nd).1 (e ▸ List.mem_of_getElem? h2)
    have := valD_zip f ys (k + 1) p x (List.nodup_cons.mp nd).2 h2
    rw [show k + (p + 1) = k + 1 + p from by omega, ← this]
    simp [valD, ne]
theorem chain_snoc {s r : Nat} {resting R R' : List Str} {shs : List Sheet} : ∀ {Rs : List (List Str)}, Chain s r resting (Rs ++ [R]) → DrawnK s r R.length resting (downR s R.length) R shs R' → Chain s r resting (Rs ++ [R] ++ [R'])
  | [], _, h => ⟨⟨_, h⟩, trivial⟩
  | [A], hc, h => ⟨hc.1, ⟨_, h⟩, trivial⟩
  | A :: B :: Rs, hc, h => ⟨hc.1, chain_snoc (Rs := B :: Rs) hc.2 h⟩
theorem first_zip (row : List Str) (h : 0 < row.length) : ((row.zipIdx.filter fun q => decide (q.2 = 0)).map (·.1)) = [row.getD 0 default] := by
  cases row with
  | nil => simp at h
  | cons x xs =>
    rw [List.zipIdx_cons, List.filter_cons_of_pos (by simp), List.filter_eq_nil_iff.mpr fun q hq => ?_]
    · rfl
    · have := List.le_snd_of_mem_zipIdx hq
      simp
      omega
theorem St.wkn {t : TS} {nx nx' : Ro → Mp → Prop} {rt : Dt → Mp → Prop} {r : Ro} {m : Mp} (h : St t nx rt r m) (k : ∀ r m, nx r m → nx' r m) : St t nx' rt r m := fun fr s H D S k1 k2 => h fr s H D S (fun r' m' s' H' hn => k1 r' m' s' H' (k _ _ hn)) k2
abbrev spLaw (K : PySem.W.Frag) : Sp := spOf (fun i : Addr × List Int => [.ref i.1]) (fun i m => ScrAt K m i.1 i.2 ∧ i.2.length ≤ 63) fun i m d m' => d = .bl true
theorem run_law {f : Addr} {fd : FuncData} (hr0 : Room 9 callerA) (F : Fun K "law" "law" s_law f fd) (c__law_begin : Fn P w K mg base 1 "_law_begin" (spBegin K)) (c__law_take : Fn P w K mg base 1 "_law_take" spTake) (c__law_boats : Fn P w K mg base 2 "_law_boats" spBoats)
    (c__law_resting_day : Fn P w K mg base 3 "_law_resting_day" spRDay) (c_day_behind : Fn P w K mg base 5 "day_behind" spDayBehind) (c_heads_of : Fn P w K mg base 5 "heads_of" spHeads) (c__law_told_right : Fn P w K mg base 8 "_law_told_right" spTold) (c_places_behind : Fn P w K mg base 3 "places_behind" spPlacesBehind)
    (Z : Nm mg) : RunA P w K mg base callerA f fd ["_law_script"] (spLaw K) :=
  run_tb hr0 F sc_law (fun _ => rfl) fun cdv outer s H E hr => ⟨_, by
    have hu := hu_of hr
    have hu64 := hu64_of hr
    have hG : (callerA.deeper (envOfC "law" (defScope s_law) s.heap.objs.size f cdv)).guards = some [] := rfl
    exact (pss_cons (ps_set (i := 1) sc_law.nd rfl (Or.inr rfl) (pe_fn c__law_begin hr (by decide) (by rfl) (pa_cons (pv 0) (pa_cons pe_int pa_nil))))
      (pss_cons (ps_set (i := 2) sc_law.nd rfl (Or.inr rfl) (pe_tupF (pa_cons (pe_op op_add pe_int (pe_fn c__law_take hr (by decide) (by rfl) (pa_cons (pv 1) (pa_cons pe_int pa_nil)))) (pa_cons (pe_fn c__law_take hr (by decide) (by rfl) (pa_cons (pv 1) (pa_cons pe_int pa_nil))) pa_nil))))
      (pss_cons (ps_asg (pe_tupF (pa_cons (pe_fn c__law_boats hr (by decide) (by rfl) (pa_cons (pv 1) (pa_cons (pe_op op_add pe_int (pe_fn c__law_take hr (by decide) (by rfl) (pa_cons (pv 1) (pa_cons pe_int pa_nil)))) pa_nil))) (pa_cons (pe_ix (k_ix_list K rfl) (pe_lst (pa_cons pe_int (pa_cons pe_int (pa_cons pe_int (pa_cons pe_int pa_nil))))) (pe_fn c__law_take hr (by decide) (by rfl) (pa_cons (pv 1) (pa_cons pe_int pa_nil))) (fun _ _ => rfl)) pa_nil))) (k_pgtup K rfl rfl (n := 2) (pgs_cons (pg_name (i := 3) sc_law.nd rfl (Or.inl rfl) (Or.inl rfl)) (pgs_cons (pg_name (i := 4) sc_law.nd rfl (Or.inr rfl) (Or.inl rfl)) pgs_nil))))
      (pss_cons (ps_asg (pe_tupF (pa_cons (pe_callTy (k_tupF K rfl) (by rfl) Z.m_tuple b_tuple (pa_cons (pe_callB (k_sortD K rfl hu64) (by rfl) Z.m_sorted b_sorted (pa_cons (pe_lc (own := [("_law_boat", 7)]) rfl sc_law.nd (pi_tup (pv 3)) (blkOk_by (own := [("_law_boat", 7)]) (N := N_law) (sc := defScope s_law) (by decide +kernel)) (fun _ _ _ _ _ => (pg_name (i := 7) sc_law.nd rfl (Or.inl rfl) (Or.inr rfl))) (fun _ _ _ _ _ => (pts_one (pt_cmpR op_lt (pe_fn c__law_take hr (by decide) (by rfl) (pa_cons (pv 1) (pa_cons pe_int pa_nil))) (pv 4) (nomark _)))) (fun _ _ _ _ _ => (pv 7))) pa_nil)) pa_nil)) (pa_cons (pe_fn c__law_take hr (by decide) (by rfl) (pa_cons (pv 1) (pa_cons pe_int pa_nil))) pa_nil))) (k_pgtup K rfl rfl (n := 2) (pgs_cons (pg_name (i := 5) sc_law.nd rfl (Or.inr rfl) (Or.inl rfl)) (pgs_cons (pg_name (i := 6) sc_law.nd rfl (Or.inl rfl) (Or.inl rfl)) pgs_nil))))
      (pss_cons (ps_set (i := 8) sc_law.nd rfl (Or.inr rfl) (pe_lst (pa_cons (pv 3) pa_nil)))
      (pss_cons (ps_for PassesOwn.never rfl (pi_range1 (by rfl) Z.m_range (pa_cons (pv 6) pa_nil)) (pg_name (i := 9) sc_law.nd rfl (Or.inl rfl) (Or.inl rfl)) (pss_cons (ps_asg (pe_fn c__law_resting_day hr (by decide) (by rfl) (pa_cons (pv 1) (pa_cons (pv 2) (pa_cons (pe_ix (k_ix_list K rfl) (pv 8) (pe_un un_neg pe_int) (fun _ _ => rfl)) (pa_cons (pv 5) pa_nil))))) (k_pgtup K rfl rfl (n := 2) (pgs_cons (pg_name (i := 10) sc_law.nd rfl (Or.inl rfl) (Or.inl rfl)) (pgs_cons (pg_name (i := 11) sc_law.nd rfl (Or.inl rfl) (Or.inl rfl)) pgs_nil))))
      (pss_cons (ps_if (pt_cmpR op_ne (pe_callB (cr_repr hG hu64) (by rfl) Z.m_repr b_repr (pa_cons (pe_fn c_day_behind hr (by decide) (by rfl) (pa_cons (pv 2) (pa_cons (pe_ix (k_ix_list K rfl) (pv 8) (pe_un un_neg pe_int) (fun _ _ => rfl)) (pa_cons (pv 10) pa_nil)))) pa_nil)) (pe_callB (cr_repr hG hu64) (by rfl) Z.m_repr b_repr (pa_cons (pe_tupF (pa_cons pe_str (pa_cons (pv 11) pa_nil))) pa_nil)) (nomark _)) (pss_one (ps_ret pe_bl)) pss_nil)
      (pss_one (ps_expr (pe_bm PySem.F.plainAttrs_list PySem.F.slot_list_append PySem.F.type_list_append mt_append (pv 8) (pa_cons (pv 11) pa_nil)))))))
      (pss_cons (ps_set (i := 12) sc_law.nd rfl (Or.inl rfl) (pe_fn c_heads_of hr (by decide) (by rfl) (pa_cons (pv 2) (pa_cons (pv 3) (pa_cons (pv 5) (pa_cons (pv 6) pa_nil))))))
      (pss_cons (ps_if (PW.pt (pw_or (pt_cmpR (k_neD K rfl hu64) (pe_lc (own := [("_law_boat", 7), ("_law_thing", 13)]) rfl sc_law.nd (pi_tup (pv 12)) (blkOk_by (own := [("_law_boat", 7), ("_law_thing", 13)]) (N := N_law) (sc := defScope s_law) (by decide +kernel)) (fun _ _ _ _ _ => (k_pgtup K rfl rfl (n := 2) (pgs_cons (pg_name (i := 7) sc_law.nd rfl (Or.inl rfl) (Or.inr rfl)) (pgs_cons (pg_name (i := 13) sc_law.nd rfl (Or.inl rfl) (Or.inr rfl)) pgs_nil)))) (fun _ _ _ _ _ => pts_nil) (fun _ _ _ _ _ => (pv 7))) (pe_callTy (k_list K rfl) (by rfl) Z.m_list b_list (pa_cons (pv 3) pa_nil)) (nomark _)) (pw_or1 (pt_cmpR op_ne (pe_ix (k_ix_tup K rfl) (pe_dget hu (pe_callTy (cr_dictT rfl) (by rfl) Z.m_dict b_dict (pa_cons (pv 12) pa_nil)) (pe_ix (k_ix_tup K rfl) (pe_ix (k_ix_list K rfl) (pv 8) (pe_un un_neg pe_int) (fun _ _ => rfl)) pe_int (fun _ _ => rfl)) (fun _ _ => rfl)) pe_int (fun _ _ => rfl)) pe_str (nomark _))))) (pss_one (ps_ret pe_bl)) pss_nil)
      (pss_cons (ps_if (pt_not (pt_val (pe_callB (k_all K rfl rfl) (by rfl) Z.m_all b_all (pa_cons (pe_lc (own := [("_law_boat", 7), ("_law_thing", 13)]) rfl sc_law.nd (pi_tup (pv 12)) (blkOk_by (own := [("_law_boat", 7), ("_law_thing", 13)]) (N := N_law) (sc := defScope s_law) (by decide +kernel)) (fun _ _ _ _ _ => (k_pgtup K rfl rfl (n := 2) (pgs_cons (pg_name (i := 7) sc_law.nd rfl (Or.inl rfl) (Or.inr rfl)) (pgs_cons (pg_name (i := 13) sc_law.nd rfl (Or.inl rfl) (Or.inr rfl)) pgs_nil)))) (fun _ _ _ _ _ => pts_nil) (fun _ _ _ _ _ => (pe_fn c__law_told_right hr (by decide) (by rfl) (pa_cons (pv 2) (pa_cons (pv 8) (pa_cons (pv 5) (pa_cons (pv 7) (pa_cons (pv 13) pa_nil)))))))) pa_nil)))) (pss_one (ps_ret pe_bl)) pss_nil)
      (pss_cons (ps_setLc (i := 14) (own := [("_law_boat", 7), ("_law_thing", 13)]) rfl sc_law.nd rfl rfl (sw_true rfl rfl rfl (by decide +kernel)) (pi_tup (pv 12)) (blkOk_by (own := [("_law_boat", 7), ("_law_thing", 13)]) (N := N_law) (sc := defScope s_law) (by decide +kernel)) (fun _ _ _ _ _ => (k_pgtup K rfl rfl (n := 2) (pgs_cons (pg_name (i := 7) sc_law.nd rfl (Or.inl rfl) (Or.inr rfl)) (pgs_cons (pg_name (i := 13) sc_law.nd rfl (Or.inl rfl) (Or.inr rfl)) pgs_nil)))) (fun _ _ _ _ _ => (pts_one (pt_cmpR op_eq (pe_ix (k_ix_tup K rfl) (pv 13) pe_int (fun _ _ => rfl)) pe_str (nomark _)))) (fun _ _ _ _ _ => (pv 7)))
      (pss_cons (ps_if (PW.pt (pw_and (pt_cmpR (k_in_seq K rfl) (pe_ix (k_ix_tup K rfl) (pv 3) pe_int (fun _ _ => rfl)) (pv 5) (by with_unfolding_all rfl)) (pw_and1 (pt_cmpR (k_neD K rfl hu64) (pv 14) (pe_lst (pa_cons (pe_ix (k_ix_tup K rfl) (pv 3) pe_int (fun _ _ => rfl)) pa_nil)) (nomark _))))) (pss_one (ps_ret pe_bl)) pss_nil)
      (pss_cons (ps_if (pt_cmpR op_lt (pv 6) pe_int (nomark _)) (pss_cons (ps_set (i := 15) sc_law.nd rfl (Or.inr rfl) (pe_callTy (cr_dictT rfl) (by rfl) Z.m_dict b_dict (pa_cons (pe_fn c_heads_of hr (by decide) (by rfl) (pa_cons (pv 2) (pa_cons (pv 3) (pa_cons (pv 5) (pa_cons (pe_op op_add (pv 6) pe_int) pa_nil))))) pa_nil)))
      (pss_one (ps_if (pt_not (pt_val (pe_callB (k_all K rfl rfl) (by rfl) Z.m_all b_all (pa_cons (pe_lc (own := [("_law_boat", 7)]) rfl sc_law.nd (pi_list (pv 14)) (blkOk_by (own := [("_law_boat", 7)]) (N := N_law) (sc := defScope s_law) (by decide +kernel)) (fun _ _ _ _ _ => (pg_name (i := 7) sc_law.nd rfl (Or.inl rfl) (Or.inr rfl))) (fun _ _ _ _ _ => pts_nil) (fun _ _ _ _ _ => (pe_cmpR op_eq (pe_ix (k_ix_tup K rfl) (pe_dget hu (pv 15) (pv 7) (fun _ _ => rfl)) pe_int (fun _ _ => rfl)) pe_str (nomark _)))) pa_nil)))) (pss_one (ps_ret pe_bl)) pss_nil))) pss_nil)
      (pss_cons (ps_set (i := 16) sc_law.nd rfl (Or.inl rfl) (pe_callTy (k_tupF K rfl) (by rfl) Z.m_tuple b_tuple (pa_cons (pe_lc (own := [("_law_p", 17), ("_law_boat", 7)]) rfl sc_law.nd (pi_enumB false (by rfl) Z.m_enumerate (pa_cons (pv 3) pa_nil)) (blkOk_by (own := [("_law_p", 17), ("_law_boat", 7)]) (N := N_law) (sc := defScope s_law) (by decide +kernel)) (fun _ _ _ _ _ => (k_pgtup K rfl rfl (n := 2) (pgs_cons (pg_name (i := 17) sc_law.nd rfl (Or.inl rfl) (Or.inr rfl)) (pgs_cons (pg_name (i := 7) sc_law.nd rfl (Or.inl rfl) (Or.inr rfl)) pgs_nil)))) (fun _ _ _ _ _ => (pts_one (pt_cmpR (k_in_seq K rfl) (pv 7) (pv 5) (by with_unfolding_all rfl)))) (fun _ _ _ _ _ => (pv 17))) pa_nil)))
      (pss_cons (ps_for PassesOwn.never rfl (pi_enumB false (by rfl) Z.m_enumerate (pa_cons (pv 3) pa_nil)) (k_pgtup K rfl rfl (n := 2) (pgs_cons (pg_name (i := 17) sc_law.nd rfl (Or.inl rfl) (Or.inl rfl)) (pgs_cons (pg_name (i := 7) sc_law.nd rfl (Or.inl rfl) (Or.inl rfl)) pgs_nil))) (pss_cons (ps_set (i := 18) sc_law.nd rfl (Or.inl rfl) (pe_fn c_places_behind hr (by decide) (by rfl) (pa_cons (pv 2) (pa_cons (pe_callB (k_len K rfl) (by rfl) Z.m_len b_len (pa_cons (pv 3) pa_nil)) (pa_cons (pv 16) (pa_cons (pv 17) pa_nil))))))
      (pss_one (ps_if (PW.pt (pw_and (pt_cmpR op_gt (pv 6) pe_int (nomark _)) (pw_and1 (pt_cmpR (k_notIn_seq K rfl) (pe_tm PySem.F.slot_tuple_index PySem.F.type_tuple_index (k_tidx K rfl) (pe_ix (k_ix_list K rfl) (pv 8) pe_int (fun _ _ => rfl)) (pa_cons (pv 7) pa_nil)) (pv 18) (by with_unfolding_all rfl))))) (pss_one (ps_ret pe_bl)) pss_nil))))
      (pss_one (ps_ret pe_bl)))))))))))))))), by
    rintro ⟨a, ns⟩ m0 ⟨hs, hl⟩
    dsimp only at hs hl ⊢
    refine q_asgX (ex_call (a, ns) (ea_cons (by walk_at "ev") (ea_cons ev_ci ea_nil)) rfl ⟨hs, hl⟩) ?_
    rintro d m1 ⟨pa, o0, np, rfl, rfl, hp0⟩
    generalize hm0 : mu m0 pa o0 = m
    have hm : m pa = some o0 := by rw [← hm0, mu_same]
    refine q_asgX (P := fun d m2 => ∃ (s r : Nat) (o : MO), s < 8 ∧ r < 8 ∧ d = encM (1 + s) r ∧ m2 = mu m pa o ∧ PotO 2 o) (ex_tup (eax_cons (P := fun d m2 => ∃ (s : Nat) (o : MO), s < 8 ∧ d = .int ((1 + s : Nat) : Int) ∧ m2 = mu m pa o ∧ PotO 1 o) (ex_op (P := fun d m2 => d = .int 1 ∧ m2 = m) (T := fun x y m2 => ∃ (s : Nat) (o : MO), s < 8 ∧ x = .int 1 ∧ y = .int ((s : Nat) : Int) ∧ m2 = mu m pa o ∧ PotO 1 o) (ex_ev ev_ci ⟨rfl, rfl⟩) ?_ ?_) ?_)) ?_
    · rintro d m2 ⟨rfl, rfl⟩
      refine EvX.imp (ex_take (pa := pa) (b := 0) (o := o0) 8 (ea_cons (by walk_at "ev") (ea_cons ev_ci ea_nil)) rfl hm hp0 (by omega) (by decide) (by decide)) ?_
      rintro d m3 ⟨v, o, hv, rfl, rfl, hp⟩
      exact ⟨v, o, hv, rfl, rfl, rfl, hp⟩
    · rintro x y m2 ⟨v, o, hv, rfl, rfl, rfl, hp⟩
      exact ⟨_, op_add1, v, o, hv, rfl, rfl, hp⟩
    · rintro d m2 ⟨v, o, hv, rfl, rfl, hp⟩
      refine eax_cons (ex_take (pa := pa) (b := 1) (o := o) 8 (ea_cons (by walk_at "ev") (ea_cons ev_ci ea_nil)) rfl mu_same hp (by omega) (by decide) (by decide)) ?_
      rintro d m3 ⟨v2, o2, hv2, rfl, rfl, hp2⟩
      exact eax_nil ⟨by simp, v, v2, o2, hv, hv2, rfl, by rw [mu_mu], hp2⟩
    rintro d m2 ⟨s', r, o2, hs8, hr8, rfl, rfl, hp2⟩
    -- the row
    refine q_seq (s_asgGX (P := fun d m2 => ∃ (row : List Str) (often : Nat) (o : MO), row.length ≤ 8 ∧ 0 < row.length ∧ row.Nodup ∧ (∀ x ∈ row, goodName x) ∧ d = .tup [encT row, .int ((often : Nat) : Int)] ∧ m2 = mu m pa o ∧ PotO 44 o) (ex_tup (eax_cons (P := fun d m2 => ∃ (row : List Str) (o : MO), row.length ≤ 8 ∧ 0 < row.length ∧ row.Nodup ∧ (∀ x ∈ row, goodName x) ∧ d = encT row ∧ m2 = mu m pa o ∧ PotO 43 o)
      (ex_callX (P := fun ds m2 => ∃ (v : Nat) (o : MO), v < 8 ∧ ds = [.ref pa, .int ((1 + v : Nat) : Int)] ∧ m2 = mu m pa o ∧ PotO 3 o) (eax_cons (P := fun d m2 => d = .ref pa ∧ m2 = mu m pa o2) (ex_ev (by walk_at "ev") ⟨rfl, rfl⟩) ?_) ?_) ?_)) ?_)
    · rintro d m2 ⟨rfl, rfl⟩
      refine eax_cons (P := fun d m2 => ∃ (v : Nat) (o : MO), v < 8 ∧ d = .int ((1 + v : Nat) : Int) ∧ m2 = mu m pa o ∧ PotO 3 o) (ex_op (P := fun d m3 => d = .int 1 ∧ m3 = mu m pa o2) (T := fun x y m2 => ∃ (v : Nat) (o : MO), v < 8 ∧ x = .int 1 ∧ y = .int ((v : Nat) : Int) ∧ m2 = mu m pa o ∧ PotO 3 o) (ex_ev ev_ci ⟨rfl, rfl⟩) ?_ ?_) ?_
      · rintro d m3 ⟨rfl, rfl⟩
        refine EvX.imp (ex_take (pa := pa) (b := 2) (o := o2) 8 (ea_cons (by walk_at "ev") (ea_cons ev_ci ea_nil)) rfl mu_same hp2 (by omega) (by decide) (by decide)) ?_
        rintro d m3 ⟨v, o, hv, rfl, rfl, hp⟩
        exact ⟨v, o, hv, rfl, rfl, by rw [mu_mu], hp⟩
      · rintro x y m2 ⟨v, o, hv, rfl, rfl, rfl, hp⟩
        exact ⟨_, op_add1, v, o, hv, rfl, rfl, hp⟩
      · rintro d m2 ⟨v, o, hv, rfl, rfl, hp⟩
        exact eax_nil ⟨v, o, hv, rfl, rfl, hp⟩
    · rintro es m2 ⟨v, o, hv, rfl, rfl, hp⟩
      refine ⟨(pa, 3, 1 + v), rfl, ⟨⟨o, mu_same, hp⟩, by dsimp only; omega, by dsimp only; omega, by dsimp only; omega⟩, ?_⟩
      rintro d m3 ⟨row, o', rl, nd, gd, rfl, rfl, hp'⟩
      dsimp only at rl
      exact ⟨row, o', by omega, by omega, nd, gd, rfl, by rw [mu_mu], hp'⟩
    · rintro d m2 ⟨row, o, rl, rl0, nd, gd, rfl, rfl, hp⟩
      refine eax_cons (ex_pick (pa := pa) (b := 43) (o := o) (vals := [0, 0, 1, 2].map fun n => .int ((n : Nat) : Int)) (ea_cons ev_ci (ea_cons ev_ci (ea_cons ev_ci (ea_cons ev_ci ea_nil)))) (fun a na => ea_cons (by walk_at "ev") (ea_cons ev_ci ea_nil)) rfl mu_same hp (by omega) (by decide) (by decide)) ?_
      rintro d m3 ⟨w', o2, hd, rfl, hp2⟩
      obtain ⟨st, hst, rfl⟩ := getEnc hd
      exact eax_nil ⟨by simp, row, st, o2, rl, rl0, nd, gd, rfl, by rw [mu_mu], hp2⟩
    rintro d m2 ⟨row, often, o3, rl, rl0, nd, gd, rfl, rfl, hp3⟩
    refine ⟨_, _, ga_tup rfl (gas_cons ga_name (gas_cons ga_name gas_nil)), ?_⟩
    -- those that rest
    refine q_seq (s_asgGX (P := fun d m2 => ∃ (resting : List Str) (many : Nat) (o : MO), many < 5 ∧ resting.Nodup ∧ resting.length ≤ 8 ∧ (∀ x ∈ resting, x ∈ row) ∧ d = .tup [encT resting, .int ((many : Nat) : Int)] ∧ m2 = mu m pa o ∧ PotO 53 o) (ex_tup (eax_cons (P := fun d m2 => ∃ (resting : List Str) (o : MO), resting.Nodup ∧ resting.length ≤ 8 ∧ (∀ x ∈ resting, x ∈ row) ∧ d = encT resting ∧ m2 = mu m pa o ∧ PotO 52 o)
      (EvX.wk (P := fun d m2 => ∃ (rs : List Str) (o : MO) (L a : Addr), rs.Sublist row ∧ d = encT (sortStr rs) ∧ mu m pa o L = none ∧ mu (mu m pa o) L (.lst (rs.map .str)) a = none ∧ m2 = mu (mu (mu m pa o) L (.lst (rs.map .str))) a (.lst ((sortStr rs).map .str)) ∧ PotO 52 o)
      (ex_cbV (P := fun d m2 => ∃ (rs : List Str) (o : MO) (L a : Addr), rs.Sublist row ∧ d = .ref a ∧ mu m pa o L = none ∧ mu (mu m pa o) L (.lst (rs.map .str)) a = none ∧ m2 = mu (mu (mu m pa o) L (.lst (rs.map .str))) a (.lst ((sortStr rs).map .str)) ∧ PotO 52 o)
      (ex_cbX (P := fun d m2 => ∃ (rs : List Str) (o : MO) (L : Addr), rs.Sublist row ∧ d = .ref L ∧ mu m pa o L = none ∧ m2 = mu (mu m pa o) L (.lst (rs.map .str)) ∧ PotO 52 o) (EvX.imp (ex_lc (ds := row.map Dt.str) (ei_tup (by walk_at "ev"))
        (fun i acc m' => ∃ (rs : List Str) (o : MO), rs.Sublist (row.take i) ∧ acc = rs.map Dt.str ∧ m' = mu m pa o ∧ PotO (44 + i) o) ⟨[], o3, by simp, rfl, rfl, hp3⟩ (fun _ _ _ _ _ _ => trivial) ?_) ?_) ?_) ?_) ?_) ?_)) ?_)
    · rintro i d acc m' hd ⟨rs, o, hsub, rfl, rfl, hp⟩
      obtain ⟨x, hx, rfl⟩ := getEnc hd
      have hi : i < row.length := (List.getElem?_eq_some_iff.mp hx).1
      have tk : row.take (i + 1) = row.take i ++ [x] := by rw [List.take_add_one, hx]; rfl
      have hsl := hsub.length_le
      rw [List.length_take] at hsl
      refine ⟨by rw [List.length_map]; omega, _, _, by decide, ga_name, etx_test (ex_op (P := fun d m2 => ∃ (v : Nat) (o : MO), v < 4 ∧ d = .int ((v : Nat) : Int) ∧ m2 = mu m pa o ∧ PotO (44 + (i + 1)) o) (T := fun x y m2 => ∃ (v : Nat) (o : MO), x = .int ((v : Nat) : Int) ∧ y = .int ((often : Nat) : Int) ∧ m2 = mu m pa o ∧ PotO (44 + (i + 1)) o) (R := fun d m2 => ∃ (b : Bool) (o : MO), d = .bl b ∧ m2 = mu m pa o ∧ PotO (44 + (i + 1)) o) ?_ ?_ ?_) ?_⟩
      · refine EvX.imp (ex_take (pa := pa) (b := 44 + i) (o := o) 4 (ea_cons (by walk_at "ev") (ea_cons ev_ci ea_nil)) rfl mu_same hp (by omega) (by decide) (by decide)) ?_
        rintro d m3 ⟨v, o', hv, rfl, rfl, hp'⟩
        exact ⟨v, o', hv, rfl, by rw [mu_mu], hp'⟩
      · rintro d m2 ⟨v, o', hv, rfl, rfl, hp'⟩
        exact ex_ev (by walk_at "ev") ⟨v, o', rfl, rfl, rfl, hp'⟩
      · rintro y z m2 ⟨v, o', rfl, rfl, rfl, hp'⟩
        exact ⟨_, op_I0b, _, o', rfl, rfl, hp'⟩
      · rintro d m2 ⟨b, o', rfl, rfl, hp'⟩
        refine ⟨b, rfl, ?_⟩
        cases b with
        | true =>
          rw [if_pos rfl]
          exact ex_ev (by walk_at "ev") ⟨rs ++ [x], o', by rw [tk]; exact hsub.append (.refl _), by simp, rfl, hp'⟩
        | false =>
          rw [if_neg (by decide)]
          exact ⟨rs, o', by rw [tk]; exact hsub.trans (List.sublist_append_left _ _), rfl, rfl, hp'⟩
    · rintro d m' ⟨L, acc, m1, ⟨rs, o, hsub, rfl, rfl, hp⟩, nL, rfl, rfl⟩
      rw [List.length_map, List.take_length] at hsub
      rw [List.length_map] at hp
      exact ⟨rs, o, L, hsub, rfl, nL, rfl, hp.more (by omega)⟩
    · rintro d m' ⟨rs, o, L, hsub, rfl, nL, rfl, hp⟩
      exact ⟨_, ca_sortStr mu_same, fun a na => ⟨rs, o, L, a, hsub, rfl, nL, na, rfl, hp⟩⟩
    · rintro d m' ⟨rs, o, L, a, hsub, rfl, nL, na, rfl, hp⟩
      exact ⟨_, ca_tupL mu_same, rs, o, L, a, hsub, rfl, nL, na, rfl, hp⟩
    · rintro d m' ⟨rs, o, L, a, hsub, rfl, nL, na, rfl, hp⟩
      have pm : (sortStr rs).Perm rs := List.mergeSort_perm _ _
      exact ⟨mu m pa o, MLe.trans (MLe.new nL) (MLe.new na), sortStr rs, o, pm.nodup_iff.mpr (hsub.nodup nd), by rw [pm.length_eq]; have := hsub.length_le; omega, fun x hx => hsub.subset (pm.mem_iff.mp hx), rfl, rfl, hp⟩
    · rintro d m2 ⟨resting, o, ndr, rsl, sub, rfl, rfl, hp⟩
      refine eax_cons (ex_take (pa := pa) (b := 52) (o := o) 5 (ea_cons (by walk_at "ev") (ea_cons ev_ci ea_nil)) rfl mu_same hp (by omega) (by decide) (by decide)) ?_
      rintro d m3 ⟨v, o', hv, rfl, rfl, hp'⟩
      exact eax_nil ⟨by simp, resting, v, o', hv, ndr, rsl, sub, rfl, by rw [mu_mu], hp'⟩
    rintro d m2 ⟨resting, many, o4, hmany, ndr, rsl, sub, rfl, rfl, hp4⟩
    refine ⟨_, _, ga_tup rfl (gas_cons ga_name (gas_cons ga_name gas_nil)), ?_⟩
    have C : Ctx (1 + s') r row resting := ⟨by omega, by omega, by omega, rl0, rl, nd, gd, ndr, sub⟩
    generalize hS : 1 + s' = s at C ⊢
    have s0 := C.s0
    have s1 := C.s1
    -- the days
    refine q_asgN (en_lst (ea_cons (by walk_at "ev") ea_nil)) fun SA nSA => ?_
    have pS : pa ≠ SA := fun e => by rw [← e, mu_same] at nSA; cases nSA
    have gok : ∀ x, goodName x → PyData.strOk x = true := fun x h => lets_ok h.2.2
    have hnr : nRaces s row.length * row.length ≤ 64 := nr_le s0 rl0 rl
    refine q_for (ei_rng0 (n := many) (ea_cons (by walk_at "ev") ea_nil) rfl (by omega)) (fun i r' m' => ∃ o Rs R, PotO (53 + i * 64) o ∧ Rs.length = i ∧ (Rs ++ [R])[0]? = some row ∧ Chain s r resting (Rs ++ [R]) ∧ R.Perm row ∧ MLe (mu (mu m pa o) SA (.lst ((Rs ++ [R]).map encT))) m' ∧ ∃ o9 o10 o11, r' = [some (.ref a), some (.ref pa), some (encM s r), some (encT row), some (.int ((often : Nat) : Int)), some (encT resting), some (.int ((many : Nat) : Int)), none, some (.ref SA), o9, o10, o11, none, none, none, none, none, none, none]) ⟨o4, [], row, hp4, rfl, rfl, trivial, .refl _, MLe.refl _, _, _, _, rfl⟩ (fun _ _ _ _ => trivial) ?_ ?_
    · rintro i d r' m' hd ⟨o, Rs, R, hp, hRl, hR0, hch, hpm, hle, o9, o10, o11, rfl⟩
      obtain ⟨k, hk, rfl⟩ := getEnc hd
      have hi : i < many := by
        have := (List.getElem?_eq_some_iff.mp hk).1
        simpa using this
      refine ⟨_, _, ga_name, ?_⟩
      refine St.less ?_ hle
      have hRlen := hpm.length_eq
      refine q_seq (s_asgGX (ex_call ((pa, 53 + i * 64), s, r, R, resting) (ea_cons (by walk_at "ev") (ea_cons (by walk_at "ev") (ea_cons (ev_op (by walk_at "ev") (ev_neg ev_ci) (op_ixL1 (a := SA) (xs := Rs) (enc := encT) mu_same)) (ea_cons (by walk_at "ev") ea_nil)))) rfl ⟨⟨o, by dsimp only; rw [mu_ne pS, mu_same], hp⟩, by dsimp only; rw [hRlen]; omega, s0, by dsimp only; omega, by dsimp only; omega, by dsimp only; omega, by dsimp only; omega, hpm.nodup_iff.mpr nd, fun x hx => gok x (gd x (hpm.mem_iff.mp hx)), ndr, fun x hx => gok x (gd x (sub x hx)), by dsimp only; omega⟩) ?_)
      rintro d m2 ⟨shs, R', o', hdk, hp', rfl, rfl⟩
      dsimp only at hdk hp' ⊢
      refine ⟨_, _, ga_tup rfl (gas_cons ga_name (gas_cons ga_name gas_nil)), ?_⟩
      have pm' := drawn_perm C hpm hdk
      obtain ⟨hrun, hend⟩ := drawn_good C hpm hdk
      have e2 : mu (mu (mu m pa o) SA (.lst ((Rs ++ [R]).map encT))) pa o' = mu (mu m pa o') SA (.lst ((Rs ++ [R]).map encT)) := by rw [mu_comm (Ne.symm pS), mu_mu]
      rw [e2]
      obtain ⟨f1, f2, f3, f4⟩ := rowTup_fits (row := R') (by rw [pm'.length_eq]; omega) fun x hx => gd x (pm'.mem_iff.mp hx)
      have pur : pures [.str "row", encT R'] = true := by simp only [pures, pure_encT, Bool.and_true]; rfl
      refine q_when (EvT.is (b' := false) (et_test (ev_op (ev_cbA (ea_cons (Ev.is (ev_call (s, r, R, shs.reverse) (ea_cons (by walk_at "ev") (ea_cons (ev_op (by walk_at "ev") (ev_neg ev_ci) (op_ixL1 (a := SA) (xs := Rs) (enc := encT) mu_same)) (ea_cons (by walk_at "ev") ea_nil))) rfl hrun) (congrArg (fun z => Dt.tup [.str "row", encT z]) hend)) ea_nil) (ca_repr pur f1 f2 f3 f4)) (ev_cbA (ea_cons (ev_tup (ea_cons ev_cs (ea_cons (by walk_at "ev") ea_nil))) ea_nil) (ca_repr pur f1 f2 f3 f4)) op_neS)) (by simp)) (fun h => nomatch h) fun _ => ?_
      refine s_app (a := SA) (ds := (Rs ++ [R]).map encT) (by walk_at "ev") mu_same (by walk_at "ev") (by simp; omega) (Wk.of ⟨o', Rs ++ [R], R', hp'.more (by rw [hRlen]; omega), by simp [hRl], ?_, chain_snoc hch hdk, pm', ?_, _, _, _, rfl⟩)
      · rw [List.getElem?_append_left (by simp)]; exact hR0
      · have e3 : (Rs ++ [R]).map encT ++ [encT R'] = (Rs ++ [R] ++ [R']).map encT := by simp
        rw [mu_mu, e3]; exact MLe.refl _
    rintro r' m' ⟨o, Rs, R, hp, hRl, hR0, hch, hpm, hle, o9, o10, o11, rfl⟩
    refine St.less ?_ hle
    obtain ⟨rest, hrest⟩ : ∃ rest, Rs ++ [R] = row :: rest := by
      cases e : Rs ++ [R] with
      | nil => simp at e
      | cons x xs => rw [e] at hR0; exact ⟨xs, by rw [Option.some.inj hR0]⟩
    have hrl : rest.length = many := by
      have := congrArg List.length hrest
      simp at this hRl
      omega
    generalize hM : mu (mu m pa o) SA (.lst ((Rs ++ [R]).map encT)) = M
    have hSA : M SA = some (.lst ((Rs ++ [R]).map encT)) := by rw [← hM, mu_same]
    have hSA2 : M SA = some (.lst ((row :: rest).map encT)) := by rw [hSA, hrest]
    refine q_asg (ev_call (s, r, row, resting, many) (by walk_at "ev") rfl ⟨s0, by dsimp only; omega, by dsimp only; omega, by dsimp only; omega, by dsimp only; omega⟩) ?_
    dsimp only
    have tups : ∀ many', row.zipIdx.map (fun q => Dt.tup [.str q.1, headD s row.length resting row (tfOf s r row resting) many' q.2]) = (row.zipIdx.map fun q => (Sum.inr q.1, headD s row.length resting row (tfOf s r row resting) many' q.2)).map fun kd : Key × Dt => Dt.tup [kD kd.1, kd.2] := fun many' => by rw [List.map_map]; rfl
    have okr : okT row := fun x hx => gok x (gd x hx)
    have hdT : headD s row.length resting row (tfOf s r row resting) many = fun p => encTh (if 0 ∈ (hereAt (tfOf s r row resting) p many).map (·.1) then Sum.inl (daysBy s row.length resting (waysTo0 (tfOf s r row resting) many p) row).2 else Sum.inr (setsOf (tfOf s r row resting) many p)) := by
      funext p
      unfold headD
      split <;> rfl
    have hRm : Rs.length = many := by simpa using hRl
    have lastR : R.getD 0 default ∈ row := hpm.mem_iff.mp (by
      cases R with
      | nil => have := hpm.length_eq; simp at this; omega
      | cons x xs => simp)
    obtain ⟨pw, hpw⟩ := List.getElem?_of_mem lastR
    have hpl : pw < row.length := (List.getElem?_eq_some_iff.mp hpw).1
    have pwe : row.getD pw default = R.getD 0 default := by rw [List.getD_eq_getElem?_getD, hpw]; rfl
    have able : 0 ∈ (hereAt (tfOf s r row resting) pw many).map (·.1) := by
      have htr := (track (j := many) (R := R) (p := pw) (rows := rest) C hpl (by rw [← hrest]; exact hch) (by rw [← hrest, ← hRm]; simp)).2
      rw [pwe] at htr
      have e0 : R.idxOf (R.getD 0 default) = 0 := by
        cases R with
        | nil => have := hpm.length_eq; simp at this; omega
        | cons x xs => simp
      rw [e0] at htr
      exact keysF_mem.mp htr
    have hw : headD s row.length resting row (tfOf s r row resting) many pw = .tup [.str "can", encDs (daysBy s row.length resting (waysTo0 (tfOf s r row resting) many pw) row).2] := if_pos able
    have vdict : ∀ many' p x, row[p]? = some x → valD (mergeD [] (row.zipIdx.map fun q => ((Sum.inr q.1 : Key), headD s row.length resting row (tfOf s r row resting) many' q.2))) (Sum.inr x) = some (headD s row.length resting row (tfOf s r row resting) many' p) := fun many' p x hx => by
      have nk : (((row.zipIdx.map fun q => ((Sum.inr q.1 : Key), headD s row.length resting row (tfOf s r row resting) many' q.2))).map (·.1)).Nodup := by
        have e : ((row.zipIdx.map fun q => ((Sum.inr q.1 : Key), headD s row.length resting row (tfOf s r row resting) many' q.2))).map (·.1) = (row.zipIdx.map (·.1)).map (Sum.inr : Str → Key) := by rw [List.map_map, List.map_map]; rfl
        rw [e, List.zipIdx_map_fst]
        exact List.Pairwise.map _ (fun a b h z => h (Sum.inr.inj z)) nd
      rw [mergeD_nil nk]
      have := valD_zip (headD s row.length resting row (tfOf s r row resting) many') row 0 p x nd hx
      rw [Nat.zero_add] at this
      exact this
    refine q_when (EvT.is (b' := false) (et_or (et_test (Ev.is (ev_opNN (EvN.is (en_lc (wk := false) (xs := row.zipIdx) (enc := fun q : Str × Nat => Dt.tup [.str q.1, headD s row.length resting row (tfOf s r row resting) many q.2]) (ei_tup (by walk_at "ev")) (fun _ _ => trivial) (fun _ => true) (fun q => .str q.1) (fun q hq => ⟨_, _, by decide, ga_tup rfl (gas_cons ga_name (gas_cons ga_name gas_nil)), et_yes, fun _ => by walk_at "ev"⟩) (by rw [List.length_zipIdx]; omega)) (congrArg MO.lst (fst_zip row))) (fun b nb => en_cbA (ea_cons (by walk_at "ev") ea_nil) ca_listT) fun b c nb ne => op_neStrs (xs := row) (ys := row) (by rw [mu_ne ne, mu_same]) mu_same okr okr) (by simp : _ = Dt.bl false))) fun _ => ?_) rfl) (fun h => nomatch h) fun _ => ?_
    · refine et_test (Ev.is (ev_op (ev_op (Ev.is (ev_dgetN (k := Sum.inr (R.getD 0 default)) (EvN.is (en_cbA (ea_cons (by walk_at "ev") ea_nil) (tups many ▸ ca_dictT)) rfl) (Ev.is (ev_op (ev_op (by walk_at "ev") (ev_neg ev_ci) (op_ixL1 (a := SA) (xs := Rs) (enc := encT) hSA)) ev_ci (op_ixTk (enc := Dt.str) 0 (v := R.getD 0 default) ?_)) rfl) (vdict many pw _ hpw)) hw) ev_ci (op_ixTd 0 (v := .str "can") rfl)) ev_cs op_neS) (by simp))
      cases R with
      | nil => have := hpm.length_eq; simp at this; omega
      | cons x xs => rfl
    have pt : ∀ p x, row[p]? = some x → preTold ((s, r, row, resting, x, if 0 ∈ (hereAt (tfOf s r row resting) p many).map (·.1) then Sum.inl (daysBy s row.length resting (waysTo0 (tfOf s r row resting) many p) row).2 else Sum.inr (setsOf (tfOf s r row resting) many p)), SA, rest) M := by
      intro p x hx
      have hpx : p < row.length := (List.getElem?_eq_some_iff.mp hx).1
      have gx : row.getD p default = x := by rw [List.getD_eq_getElem?_getD, hx]; rfl
      unfold preTold
      dsimp only
      refine ⟨hSA2, by omega, by omega, ?_⟩
      by_cases hc : 0 ∈ (hereAt (tfOf s r row resting) p many).map (·.1)
      · rw [if_pos hc]
        obtain ⟨g1, g2, g3, g4⟩ := head_can (many := many) C hpx hc
        exact ⟨fun e => by rw [e] at rl0; simp at rl0, by rw [g2, hrl], g1, fun y hy => gok y (gd y (sub y hy)), by omega, g3, by rw [g4, gx]⟩
      · rw [if_neg hc]
        refine ⟨by rw [← gx, hrl]; exact head_cannot C (by omega) hpx hc, fun pr hpr => ?_⟩
        obtain ⟨j, hj⟩ := List.mem_iff_getElem?.mp hpr
        obtain ⟨R1, st1⟩ := pr
        rw [List.getElem?_zip_eq_some] at hj
        obtain ⟨j1, j2⟩ := hj
        dsimp only at j1 j2 ⊢
        have jl : j < many + 1 := by
          have := (List.getElem?_eq_some_iff.mp j1).1
          rw [List.length_cons, hrl] at this
          exact this
        obtain ⟨t1, t2⟩ := track (p := p) C hpx (by rw [← hrest]; exact hch) j1
        rw [sets_get jl] at j2
        rw [gx] at t2
        rw [← Option.some.inj j2]
        exact ⟨t1.mem_iff.mpr (List.mem_of_getElem? hx), t2⟩
    refine q_when (EvT.is (b' := false) (et_not (et_B (ev_allLc (wk := false) (xs := row.zipIdx) (enc := fun q : Str × Nat => Dt.tup [.str q.1, headD s row.length resting row (tfOf s r row resting) many q.2]) (ei_tup (by walk_at "ev")) (fun _ _ => trivial) (fun _ => true) (fun _ => true) (fun q hq => ⟨_, _, by decide, ga_tup rfl (gas_cons ga_name (gas_cons ga_name gas_nil)), et_yes, fun _ => ev_callM ((s, r, row, resting, q.1, if 0 ∈ (hereAt (tfOf s r row resting) q.2 many).map (·.1) then Sum.inl (daysBy s row.length resting (waysTo0 (tfOf s r row resting) many q.2) row).2 else Sum.inr (setsOf (tfOf s r row resting) many q.2)), SA, rest) (by walk_at "ev") (by dsimp only; rw [hdT]) (pt q.2 q.1 (zipIdx_lt hq).2)⟩) (by rw [List.length_zipIdx]; omega)))) (by simp)) (fun h => nomatch h) fun _ => ?_
    have hfst : ∀ many' p, ∃ z, headD s row.length resting row (tfOf s r row resting) many' p = .tup [.str (if 0 ∈ (hereAt (tfOf s r row resting) p many').map (·.1) then "can" else "cannot"), z] := fun many' p => by
      unfold headD
      by_cases h : 0 ∈ (hereAt (tfOf s r row resting) p many').map (·.1)
      · rw [if_pos h, if_pos h]; exact ⟨_, rfl⟩
      · rw [if_neg h, if_neg h]; exact ⟨_, rfl⟩
    have hcan : ∀ p, decide ((if 0 ∈ (hereAt (tfOf s r row resting) p many).map (·.1) then ("can" : Str) else "cannot") = "can") = decide (0 ∈ (hereAt (tfOf s r row resting) p many).map (·.1)) := fun p => by
      have ne : ¬ (("cannot" : Str) = "can") := by decide +kernel
      by_cases h : 0 ∈ (hereAt (tfOf s r row resting) p many).map (·.1)
      · rw [if_pos h]; simp [h]
      · rw [if_neg h, decide_eq_false ne, decide_eq_false h]
    refine q_asgN (o := .lst ((((row.zipIdx.filter fun q => decide (0 ∈ (hereAt (tfOf s r row resting) q.2 many).map (·.1))).map (·.1))).map Dt.str)) (EvN.is (en_lc (wk := false) (xs := row.zipIdx) (enc := fun q : Str × Nat => Dt.tup [.str q.1, headD s row.length resting row (tfOf s r row resting) many q.2]) (ei_tup (by walk_at "ev")) (fun _ _ => trivial) (fun q => decide (0 ∈ (hereAt (tfOf s r row resting) q.2 many).map (·.1))) (fun q => .str q.1) (fun q hq => by
      obtain ⟨z, hz⟩ := hfst many q.2
      exact ⟨_, _, by decide, ga_tup rfl (gas_cons ga_name (gas_cons ga_name gas_nil)), EvT.is (et_test (ev_op (ev_op (Ev.is (by walk_at "ev") hz) ev_ci (op_ixTd 0 rfl)) ev_cs op_eqS)) (hcan q.2), fun _ => by walk_at "ev"⟩) (by rw [List.length_zipIdx]; omega)) (by rw [List.map_map]; rfl)) fun AB nAB => ?_
    generalize hAB : ((row.zipIdx.filter fun q => decide (0 ∈ (hereAt (tfOf s r row resting) q.2 many).map (·.1))).map (·.1)) = ab at nAB ⊢
    have abr : ∀ x ∈ ab, ∃ p, row[p]? = some x ∧ 0 ∈ (hereAt (tfOf s r row resting) p many).map (·.1) := fun x hx => by
      rw [← hAB] at hx
      obtain ⟨q, hq, rfl⟩ := List.mem_map.mp hx
      obtain ⟨q1, q2⟩ := List.mem_filter.mp hq
      exact ⟨q.2, (zipIdx_lt q1).2, of_decide_eq_true q2⟩
    have okab : okT ab := fun x hx => by
      obtain ⟨p, h1, _⟩ := abr x hx
      exact okr x (List.mem_of_getElem? h1)
    have ab1 : row.getD 0 default ∈ resting → ab = [row.getD 0 default] := fun hr0 => by
      rw [← hAB]
      have e : (row.zipIdx.filter fun q => decide (0 ∈ (hereAt (tfOf s r row resting) q.2 many).map (·.1))) = row.zipIdx.filter fun q => decide (q.2 = 0) := List.filter_congr fun q hq => decide_eq_decide.mpr (rest_head C (zipIdx_lt hq).1 hr0)
      rw [e]
      exact first_zip row rl0
    have r0 : row[0]? = some (row.getD 0 default) := by
      cases row with
      | nil => simp at rl0
      | cons x xs => rfl
    have nSA2 : SA ≠ AB := fun e => by rw [← e, hSA] at nAB; cases nAB
    refine q_when (EvT.is (b' := false) (et_and (et_test (ev_op (ev_op (by walk_at "ev") ev_ci (op_ixTk (enc := Dt.str) 0 r0)) (by walk_at "ev") op_inTS)) fun h => et_test (ev_opN2 (by walk_at "ev") (en_lst (ea_cons (ev_op (by walk_at "ev") ev_ci (op_ixTk (enc := Dt.str) 0 r0)) ea_nil)) fun b nb => op_neStrs (xs := ab) (ys := [row.getD 0 default]) (by rw [mu_ne (fun e => by rw [← e, mu_same] at nb; cases nb), mu_same]) mu_same okab (fun x hx => by rw [List.mem_singleton.mp hx]; exact okr _ (List.mem_of_getElem? r0)))) ?_) (fun h => nomatch h) fun _ => ?_
    · by_cases h : row.getD 0 default ∈ resting
      · rw [ab1 h]; simp
      · rw [decide_eq_false h]; rfl
    have nS : mu M AB (.lst (ab.map Dt.str)) SA = some (.lst ((row :: rest).map encT)) := by rw [mu_ne nSA2]; exact hSA2
    generalize hM2 : mu M AB (.lst (ab.map Dt.str)) = M2 at nS
    have hAB2 : M2 AB = some (.lst (ab.map Dt.str)) := by rw [← hM2, mu_same]
    have abl : ab.length ≤ 8 := by
      rw [← hAB, List.length_map]
      exact Nat.le_trans (List.length_filter_le _ _) (by rw [List.length_zipIdx]; omega)
    refine q_seq (St.wkn (nx := fun r' m' => MLe M2 m' ∧ ∃ o7 o15, r' = [some (.ref a), some (.ref pa), some (encM s r), some (encT row), some (.int ((often : Nat) : Int)), some (encT resting), some (.int ((many : Nat) : Int)), o7, some (.ref SA), o9, o10, o11, some (Dt.tup (row.zipIdx.map fun q => Dt.tup [.str q.1, headD s row.length resting row (tfOf s r row resting) many q.2])), none, some (.ref AB), o15, none, none, none]) (s_if (b := decide (many < 4)) (EvT.is (et_test (ev_op (by walk_at "ev") (by walk_at "ev") op_I0b)) ?_) (fun hlt => ?_) fun _ => s_next ⟨MLe.refl _, _, _, rfl⟩) ?_)
    · exact decide_eq_decide.mpr (by omega)
    · refine q_asgN (EvN.is (en_cbA (ea_cons (ev_call (s, r, row, resting, many + 1) (by walk_at "ev") (by simp) ⟨s0, by dsimp only; omega, by dsimp only; omega, by dsimp only; omega, by dsimp only; omega⟩) ea_nil) (tups (many + 1) ▸ ca_dictT)) rfl) fun DA nDA => ?_
      have nDB : AB ≠ DA := fun e => by rw [← e, hAB2] at nDA; cases nDA
      refine s_when (EvT.is (b' := false) (et_not (et_B (ev_allLc (wk := false) (xs := ab) (enc := Dt.str) (src := fun m' => m' AB = some (.lst (ab.map Dt.str))) (ei_list (by walk_at "ev") (by rw [mu_ne nDB]; exact hAB2)) (fun m' l => l _ _ (by rw [mu_ne nDB]; exact hAB2)) (fun _ => true) (fun _ => true) (fun x hx => ?_) (by omega)))) ?_) (fun h => nomatch h) fun _ => ⟨MLe.new nDA, _, _, rfl⟩
      · obtain ⟨p, hxp, hc⟩ := abr x hx
        have hpx : p < row.length := (List.getElem?_eq_some_iff.mp hxp).1
        have hv : headD s row.length resting row (tfOf s r row resting) (many + 1) p = .tup [.str ("can" : Str), encDs (daysBy s row.length resting (waysTo0 (tfOf s r row resting) (many + 1) p) row).2] := if_pos (more_days C hpx hc)
        exact ⟨_, _, by decide, ga_name, et_yes, fun _ => Ev.is (ev_op (ev_op (Ev.is (ev_dget (a := DA) (k := Sum.inr x) (by walk_at "ev") (by walk_at "ev") mu_same (vdict (many + 1) p x hxp)) hv) ev_ci (op_ixTd 0 (v := .str "can") rfl)) ev_cs op_eqS) (by simp)⟩
      · rw [all_tt _ (fun _ _ => rfl)]
        rfl
    rintro r' m2 ⟨hle2, o7, o15, rfl⟩
    refine St.less ?_ hle2
    refine q_asg (enumPlaces (row := row) (resting := resting) (ea_cons (by walk_at "ev") ea_nil) (by omega) fun q => ⟨_, _, by decide, ga_tup rfl (gas_cons ga_name (gas_cons ga_name gas_nil)), et_test (ev_op (by walk_at "ev") (by walk_at "ev") op_inTS), by walk_at "ev"⟩) ?_
    refine q_for (ei_enumT (ys := row) (enc := Dt.str) (ea_cons (by walk_at "ev") ea_nil)) (fun i r' m' => m' = M2 ∧ ∃ o7 o17 o18, r' = [some (.ref a), some (.ref pa), some (encM s r), some (encT row), some (.int ((often : Nat) : Int)), some (encT resting), some (.int ((many : Nat) : Int)), o7, some (.ref SA), o9, o10, o11, some (Dt.tup (row.zipIdx.map fun q => Dt.tup [.str q.1, headD s row.length resting row (tfOf s r row resting) many q.2])), none, some (.ref AB), o15, some (encN (placesOf row resting)), o17, o18]) ⟨rfl, _, _, _, rfl⟩ (fun _ _ _ _ => trivial) ?_ ?_
    · rintro i d r' m' hd ⟨rfl, o7, o17, o18, rfl⟩
      rw [List.getElem?_map] at hd
      obtain ⟨⟨x, p⟩, hq, rfl⟩ := Option.map_eq_some_iff.mp hd
      obtain ⟨hpx, hxp⟩ := zipIdx_lt (memGet hq)
      dsimp only at hpx hxp
      have gx : row.getD p default = x := by rw [List.getD_eq_getElem?_getD, hxp]; rfl
      refine ⟨_, _, ga_tup rfl (gas_cons ga_name (gas_cons ga_name gas_nil)), ?_⟩
      refine q_asg (ev_call (s, r, row.length, placesOf row resting, p) (ea_cons (by walk_at "ev") (ea_cons (ev_cbA (ea_cons (by walk_at "ev") ea_nil) ca_lenT) (ea_cons (by walk_at "ev") (ea_cons (by walk_at "ev") ea_nil)))) (by simp) ⟨s0, by dsimp only; omega, by dsimp only; omega, by dsimp only; omega, hpx⟩) ?_
      refine s_when (EvT.is (b' := false) (et_and (b := false) (et_test (ev_op (by walk_at "ev") (by walk_at "ev") op_I0b)) fun h => ?_) ?_) (fun h => nomatch h) fun _ => Wk.of ⟨rfl, _, _, _, rfl⟩
      · have hm0 : 0 < many := by simpa using h
        obtain ⟨R1, rest1, hr1⟩ : ∃ R1 rest1, rest = R1 :: rest1 := by
          cases e : rest with
          | nil => rw [e] at hrl; simp at hrl; omega
          | cons y ys => exact ⟨y, ys, rfl⟩
        obtain ⟨t1, t2⟩ := track1 (p := p) (R := R1) (rows := rest1) C hpx (by rw [← hr1, ← hrest]; exact hch)
        rw [gx] at t1 t2
        refine EvT.is (et_test (ev_op (ev_idx (ev_op (by walk_at "ev") ev_ci (op_ixLk (enc := encT) (a := SA) (v := R1) 1 nS (by rw [hr1]; rfl))) (by walk_at "ev") t1) (by walk_at "ev") op_niTN)) ?_
        have : R1.idxOf x ∈ keysF (mfD s r row.length (placesOf row resting) p) := t2
        simp [this]
      · simp
    · rintro r' m' ⟨rfl, o7, o17, o18, rfl⟩
      exact s_ret ev_cb (Wk.of rfl)⟩
end
end TB
set_option Elab.async false
set_option linter.all false
set_option autoImplicit false
set_option maxRecDepth 100000
set_option maxHeartbeats 4000000
/-! all defs, the law from their places. -/
namespace TB
open PySem PySem.Spec PyProof.Rows L2 RT
section
variable {P : Program} {w : World} {K : PySem.W.Frag} {mg : Str → Option Value} {base : Heap}
structure AllAt (K : PySem.W.Frag) (mg : Str → Option Value) : Prop where
  a_races_of : At K mg "races_of" s_races_of ["meeting", "n"]
  a_span : At K mg "span" s_span ["meeting", "n", "k"]
  a_exchanged : At K mg "exchanged" s_exchanged ["row", "one", "other"]
  a_is_boat : At K mg "is_boat" s_is_boat ["thing"]
  a_boats_between : At K mg "boats_between" s_boats_between ["start", "event"]
  a_goes_ahead : At K mg "goes_ahead" s_goes_ahead ["start", "event"]
  a_touches_in : At K mg "touches_in" s_touches_in ["sheet"]
  a_is_crossed : At K mg "is_crossed" s_is_crossed ["start", "one", "other"]
  a_start_on : At K mg "start_on" s_start_on ["meeting", "row", "k"]
  a_laid_on : At K mg "laid_on" s_laid_on ["meeting", "row", "k", "some"]
  a_races_going : At K mg "races_going" s_races_going ["meeting", "row"]
  a_is_event : At K mg "is_event" s_is_event ["thing"]
  a_is_sheet : At K mg "is_sheet" s_is_sheet ["thing"]
  a_row_behind : At K mg "row_behind" s_row_behind ["start", "sheet"]
  a_strange_or_twice : At K mg "strange_or_twice" s_strange_or_twice ["start", "sheet"]
  a_touch_fault : At K mg "touch_fault" s_touch_fault ["start", "reach", "sheet", "event"]
  a_fault_of : At K mg "fault_of" s_fault_of ["start", "reach", "sheet"]
  a_length_of : At K mg "length_of" s_length_of ["start", "event"]
  a_order_of : At K mg "order_of" s_order_of ["start", "reach", "sheet"]
  a_is_day : At K mg "is_day" s_is_day ["thing"]
  a_day_behind : At K mg "day_behind" s_day_behind ["meeting", "row", "day"]
  a_starts_of : At K mg "starts_of" s_starts_of ["meeting", "row", "day"]
  a_all_rest : At K mg "all_rest" s_all_rest ["meeting", "row", "resting", "day"]
  a_shows_can : At K mg "shows_can" s_shows_can ["meeting", "row", "resting", "many", "boat", "days"]
  a__law_days_right : At K mg "_law_days_right" s__law_days_right ["_law_meeting", "_law_row", "_law_resting", "_law_boat", "_law_days"]
  a_are_places : At K mg "are_places" s_are_places ["n", "thing"]
  a_moves_from : At K mg "moves_from" s_moves_from ["meeting", "n", "places", "p"]
  a_places_behind : At K mg "places_behind" s_places_behind ["meeting", "n", "places", "p"]
  a_day_by : At K mg "day_by" s_day_by ["meeting", "row", "resting", "moves"]
  a_days_by : At K mg "days_by" s_days_by ["meeting", "row", "resting", "ways"]
  a_further_on : At K mg "further_on" s_further_on ["table", "here"]
  a_head_thing : At K mg "head_thing" s_head_thing ["meeting", "row", "resting", "table", "many", "p"]
  a_heads_of : At K mg "heads_of" s_heads_of ["meeting", "row", "resting", "many"]
  a_shows_cannot : At K mg "shows_cannot" s_shows_cannot ["meeting", "row", "resting", "many", "boat", "sets"]
  a_shows_head : At K mg "shows_head" s_shows_head ["meeting", "row", "resting", "many", "boat", "thing"]
  a__law_told_right : At K mg "_law_told_right" s__law_told_right ["_law_meeting", "_law_rows", "_law_resting", "_law_boat", "_law_thing"]
  a__law_take : At K mg "_law_take" s__law_take ["_law_pot", "_law_many"]
  a__law_begin : At K mg "_law_begin" s__law_begin ["_law_script", "_law_k"]
  a__law_span : At K mg "_law_span" s__law_span ["_law_meeting", "_law_n", "_law_k"]
  a__law_many_races : At K mg "_law_many_races" s__law_many_races ["_law_meeting", "_law_n"]
  a__law_sheet : At K mg "_law_sheet" s__law_sheet ["_law_start", "_law_word"]
  a__law_raced : At K mg "_law_raced" s__law_raced ["_law_start", "_law_reach", "_law_sheet_here"]
  a__law_marks : At K mg "_law_marks" s__law_marks ["_law_pot", "_law_reach", "_law_many"]
  a__law_resting_day : At K mg "_law_resting_day" s__law_resting_day ["_law_pot", "_law_meeting", "_law_row", "_law_resting"]
  a__law_boats : At K mg "_law_boats" s__law_boats ["_law_pot", "_law_many"]
  nm : Nm mg
theorem run_all {f : Addr} {fd : FuncData} (hr0 : Room 9 callerA) (F : Fun K "law" "law" s_law f fd) (Q : AllAt K mg) : RunA P w K mg base callerA f fd ["_law_script"] (spLaw K) := by
  have c_races_of := fn_races_of (P := P) (w := w) (base := base) Q.a_races_of Q.nm
  have c_span := fn_span (P := P) (w := w) (base := base) Q.a_span Q.nm
  have c_exchanged := fn_exchanged (P := P) (w := w) (base := base) Q.a_exchanged Q.nm
  have c_is_boat := fn_is_boat (P := P) (w := w) (base := base) Q.a_is_boat Q.nm
  have c_boats_between := fn_boats_between (P := P) (w := w) (base := base) Q.a_boats_between Q.nm
  have c_goes_ahead := fn_goes_ahead (P := P) (w := w) (base := base) Q.a_goes_ahead Q.nm
  have c_touches_in := fn_touches_in (P := P) (w := w) (base := base) Q.a_touches_in Q.nm
  have c_is_crossed := fn_is_crossed (P := P) (w := w) (base := base) Q.a_is_crossed c_boats_between Q.nm
  have c_start_on := fn_start_on (P := P) (w := w) (base := base) Q.a_start_on c_span Q.nm
  have c_laid_on := fn_laid_on (P := P) (w := w) (base := base) Q.a_laid_on c_span Q.nm
  have c_races_going := fn_races_going (P := P) (w := w) (base := base) Q.a_races_going c_races_of Q.nm
  have c_is_event := fn_is_event (P := P) (w := w) (base := base) Q.a_is_event c_is_boat Q.nm
  have c_is_sheet := fn_is_sheet (P := P) (w := w) (base := base) Q.a_is_sheet c_is_event Q.nm
  have c_row_behind := fn_row_behind (P := P) (w := w) (base := base) Q.a_row_behind c_touches_in c_exchanged Q.nm
  have c_strange_or_twice := fn_strange_or_twice (P := P) (w := w) (base := base) Q.a_strange_or_twice Q.nm
  have c_touch_fault := fn_touch_fault (P := P) (w := w) (base := base) Q.a_touch_fault c_goes_ahead c_boats_between Q.nm
  have c_fault_of := fn_fault_of (P := P) (w := w) (base := base) Q.a_fault_of c_strange_or_twice c_touches_in c_touch_fault c_is_crossed Q.nm
  have c_length_of := fn_length_of (P := P) (w := w) (base := base) Q.a_length_of c_boats_between Q.nm
  have c_order_of := fn_order_of (P := P) (w := w) (base := base) Q.a_order_of c_fault_of c_length_of Q.nm
  have c_is_day := fn_is_day (P := P) (w := w) (base := base) Q.a_is_day c_is_sheet Q.nm
  have c_day_behind := fn_day_behind (P := P) (w := w) (base := base) Q.a_day_behind c_races_of c_races_going c_start_on c_order_of c_laid_on c_row_behind Q.nm
  have c_starts_of := fn_starts_of (P := P) (w := w) (base := base) Q.a_starts_of c_races_going c_start_on c_laid_on c_row_behind Q.nm
  have c_all_rest := fn_all_rest (P := P) (w := w) (base := base) Q.a_all_rest c_starts_of Q.nm
  have c_shows_can := fn_shows_can (P := P) (w := w) (base := base) Q.a_shows_can c_is_day c_day_behind c_all_rest Q.nm
  have c__law_days_right := fn_days_right (P := P) (w := w) (base := base) Q.a__law_days_right c_day_behind c_starts_of Q.nm
  have c_are_places := fn_are_places (P := P) (w := w) (base := base) Q.a_are_places Q.nm
  have c_moves_from := fn_moves_from (P := P) (w := w) (base := base) Q.a_moves_from c_races_of c_span Q.nm
  have c_places_behind := fn_places_behind (P := P) (w := w) (base := base) Q.a_places_behind c_moves_from Q.nm
  have c_day_by := fn_day_by (P := P) (w := w) (base := base) Q.a_day_by c_races_of c_span c_exchanged Q.nm
  have c_days_by := fn_days_by (P := P) (w := w) (base := base) Q.a_days_by c_day_by Q.nm
  have c_further_on := fn_further_on (P := P) (w := w) (base := base) Q.a_further_on Q.nm
  have c_head_thing := fn_head_thing (P := P) (w := w) (base := base) Q.a_head_thing c_further_on c_days_by Q.nm
  have c_heads_of := fn_heads_of (P := P) (w := w) (base := base) Q.a_heads_of c_moves_from c_head_thing Q.nm
  have c_shows_cannot := fn_shows_cannot (P := P) (w := w) (base := base) Q.a_shows_cannot c_are_places c_places_behind Q.nm
  have c_shows_head := fn_shows_head (P := P) (w := w) (base := base) Q.a_shows_head c_shows_can c_shows_cannot Q.nm
  have c__law_told_right := fn_told_right (P := P) (w := w) (base := base) Q.a__law_told_right c_shows_head c__law_days_right Q.nm
  have c__law_take := fn_take (P := P) (w := w) (base := base) Q.a__law_take Q.nm
  have c__law_begin := fn_begin (P := P) (w := w) (base := base) Q.a__law_begin Q.nm
  have c__law_span := fn_lspan (P := P) (w := w) (base := base) Q.a__law_span Q.nm
  have c__law_many_races := fn_lmany (P := P) (w := w) (base := base) Q.a__law_many_races Q.nm
  have c__law_sheet := fn_lsheet (P := P) (w := w) (base := base) Q.a__law_sheet Q.nm
  have c__law_raced := fn_raced (P := P) (w := w) (base := base) Q.a__law_raced Q.nm
  have c__law_marks := fn_marks (P := P) (w := w) (base := base) Q.a__law_marks c__law_take Q.nm
  have c__law_resting_day := fn_resting_day (P := P) (w := w) (base := base) Q.a__law_resting_day c__law_many_races c__law_span c__law_sheet c__law_marks c__law_raced Q.nm
  have c__law_boats := fn_boats (P := P) (w := w) (base := base) Q.a__law_boats c__law_take Q.nm
  exact run_law hr0 F c__law_begin c__law_take c__law_boats c__law_resting_day c_day_behind c_heads_of c__law_told_right c_places_behind Q.nm
theorem at_mk {h : Heap} {x : Str} {st : Stmt} {ps : List Str} {f : Addr} {oc : Value} {od an : Option Addr} {osl : Array (Option Value)} {kV doc pm cdv ct : Value} (X : K.In h) (G : h.Ns mainGlobals mg)
    (a : PySem.W.nsIn K mainGlobals x = some (some (.ref f))) (l : K.lookup f = some ⟨oc, od, .func (PySem.W.fnOf x x (defArgs st) (defBody st) (defScope st) .none kV doc pm an cdv ct), osl⟩) (c : PySem.W.codeIn K cdv x = true) (k : PySem.W.keepIn K (.ref f) = true)
    (b : ∀ F : Fun K x x st f (PySem.W.fnOf x x (defArgs st) (defBody st) (defScope st) .none kV doc pm an cdv ct), Binds K (PySem.W.fnOf x x (defArgs st) (defBody st) (defScope st) .none kV doc pm an cdv ct) ps []) : At K mg x st ps :=
  ⟨f, _, fun_mk l c k, PySem.W.mg_of X G a, b (fun_mk l c k)⟩
theorem law_mk {h : Heap} {fa f : Addr} {oc : Value} {od an : Option Addr} {osl : Array (Option Value)} {kV doc pm cdv ct : Value} (X : K.In h) (G : h.Ns mainGlobals mg) (hfa : mg "law" = some (.ref fa))
    (a : PySem.W.nsIn K mainGlobals "law" = some (some (.ref f))) (l : K.lookup f = some ⟨oc, od, .func (PySem.W.fnOf "law" "law" (defArgs s_law) (defBody s_law) (defScope s_law) .none kV doc pm an cdv ct), osl⟩) (c : PySem.W.codeIn K cdv "law" = true) (k : PySem.W.keepIn K (.ref f) = true) (Q : AllAt K mg) :
    ∃ fd : FuncData, Fun K "law" "law" s_law fa fd ∧ (∀ (s : Shared) (u : Value), BindsTo s fd ⟨[u], []⟩ [("_law_script", u)]) ∧ AllAt K mg := by
  have e := hfa.symm.trans (PySem.W.mg_of X G a)
  cases e
  exact ⟨_, fun_mk l c k, fun s u => .of_eq rfl, Q⟩
theorem sp_law {H : Hp} {a : Addr} {ns : List Int} (hl : ns.length ≤ 63) (hO : Only H) (hS : SqL K H a (ns.map V.int)) : spLaw K [.ref a] H (fun v _ => v = .bl true) fun _ _ _ => False := by
  rcases hS with hS | hS
  · have : ∃ o, H a = some (.frz o (.lst (ns.map V.int))) := by
      rcases hS with h | h
      · rcases hO a with z | ⟨o, xs, z⟩
        · rw [h] at z; cases z
        · rw [h] at z; cases z
      · exact h
    obtain ⟨o, ho⟩ := this
    refine ⟨fun _ => none, (a, ns), fun b => if b = a then some (.frl o ns) else none, ⟨fun b u e => ?_, (fun b u e => nomatch e), fun b u e => rfl⟩, .cons (.ref a) .nil, ⟨.inl ⟨o, if_pos rfl⟩, hl⟩, fun d m' v H' hd _ _ hv => ?_⟩
    · by_cases hb : b = a
      · have e' := (if_pos hb).symm.trans e
        cases e'
        rw [hb]
        exact ho
      · have e' := (if_neg hb).symm.trans e
        cases e'
    · have hd : d = .bl true := hd
      subst hd
      cases hv
      rfl
  · refine ⟨fun _ => none, (a, ns), fun _ => none, ⟨(fun b u e => nomatch e), (fun b u e => nomatch e), fun b u e => rfl⟩, .cons (.ref a) .nil, ⟨.inr hS, hl⟩, fun d m' v H' hd _ _ hv => ?_⟩
    have hd : d = .bl true := hd
    subst hd
    cases hv
    rfl
theorem walk_all {l : PySem.W.OpenLaw} {q : Program} {loose : List Str} {XP : (Str → Option Value) → Heap → Prop} {YP : World → Heap → Prop} {d : DefRec} {K : Params → PySem.W.Frag}
    (hn : l.most = some 63) (hdf : d.params.defaults = []) (hY : ∀ (w : World) (h : Heap), YP w h → (K w.params).In h)
    (F : ∀ (w : World) (mg : Str → Option Value) (fa : Addr) (h : Heap), (K w.params).In h → h.Ns mainGlobals mg → mg d.name = some (.ref fa) →
      ∃ fd : FuncData, Fun (K w.params) "law" "law" s_law fa fd ∧ (∀ (s : Shared) (u : Value), BindsTo s fd ⟨[u], []⟩ [("_law_script", u)]) ∧ AllAt (K w.params) mg) :
    PySem.W.WalkO q loose XP YP l.row.toRowW d [] (fun f vs => PySem.call f vs) :=
  walk_tb (n := 63) (x := "_law_script") (sp := fun w => spLaw (K w.params)) hn (by decide) hdf hY (fun w mg fa h KX G hmg => by
    obtain ⟨fd, F1, b, Q⟩ := F w mg fa h KX G hmg
    exact ⟨fd, b, fun base _ _ => run_all ⟨rfl, by decide, by decide⟩ F1 Q⟩) fun w H a ns hl hO hS => sp_law hl hO hS
end
end TB
open PySem PySem.W PyProof.Rows
set_option Elab.async false
set_option maxRecDepth 100000 in
set_option maxHeartbeats 0 in
theorem PySem.Challenge.cw_touchboats_k54_whole_who_can_be_head_holds : PySem.Challenge.rw_touchboats_k54_whole_who_can_be_head.Holds := by
  w_on; o_law; k_head; (case hw => w_witness2)
  k_fill
  refine TB.walk_all (l := PySem.Challenge.rw_touchboats_k54_whole_who_can_be_head) rfl rfl (fun w h Y => PySem.W.kIn_of Y) ?F
  case F =>
    intro w mg fa h KX G hmg
    refine' TB.law_mk KX G hmg ?a ?l ?c ?k ?all
    (case a => k_is); (case l => k_is); (case c => k_is); (case k => k_is)
    case all =>
      refine' { a_races_of := ?d_races_of, a_span := ?d_span, a_exchanged := ?d_exchanged, a_is_boat := ?d_is_boat, a_boats_between := ?d_boats_between, a_goes_ahead := ?d_goes_ahead, a_touches_in := ?d_touches_in, a_is_crossed := ?d_is_crossed, a_start_on := ?d_start_on, a_laid_on := ?d_laid_on, a_races_going := ?d_races_going, a_is_event := ?d_is_event, a_is_sheet := ?d_is_sheet, a_row_behind := ?d_row_behind, a_strange_or_twice := ?d_strange_or_twice, a_touch_fault := ?d_touch_fault, a_fault_of := ?d_fault_of, a_length_of := ?d_length_of, a_order_of := ?d_order_of, a_is_day := ?d_is_day, a_day_behind := ?d_day_behind, a_starts_of := ?d_starts_of, a_all_rest := ?d_all_rest, a_shows_can := ?d_shows_can, a__law_days_right := ?d__law_days_right, a_are_places := ?d_are_places, a_moves_from := ?d_moves_from, a_places_behind := ?d_places_behind, a_day_by := ?d_day_by, a_days_by := ?d_days_by, a_further_on := ?d_further_on, a_head_thing := ?d_head_thing, a_heads_of := ?d_heads_of, a_shows_cannot := ?d_shows_cannot, a_shows_head := ?d_shows_head, a__law_told_right := ?d__law_told_right, a__law_take := ?d__law_take, a__law_begin := ?d__law_begin, a__law_span := ?d__law_span, a__law_many_races := ?d__law_many_races, a__law_sheet := ?d__law_sheet, a__law_raced := ?d__law_raced, a__law_marks := ?d__law_marks, a__law_resting_day := ?d__law_resting_day, a__law_boats := ?d__law_boats, nm := ?nm }
      case d_races_of =>
        refine' TB.at_mk KX G ?a ?l ?c ?k (fun F => F.binds (ps := ["meeting", "n"]) fun _ _ _ _ _ _ us hl => match us, hl with | [_, _], _ => rfl)
        (case a => k_is); (case l => k_is); (case c => k_is); (case k => k_is)
      case d_span =>
        refine' TB.at_mk KX G ?a ?l ?c ?k (fun F => F.binds (ps := ["meeting", "n", "k"]) fun _ _ _ _ _ _ us hl => match us, hl with | [_, _, _], _ => rfl)
        (case a => k_is); (case l => k_is); (case c => k_is); (case k => k_is)
      case d_exchanged =>
        refine' TB.at_mk KX G ?a ?l ?c ?k (fun F => F.binds (ps := ["row", "one", "other"]) fun _ _ _ _ _ _ us hl => match us, hl with | [_, _, _], _ => rfl)
        (case a => k_is); (case l => k_is); (case c => k_is); (case k => k_is)
      case d_is_boat =>
        refine' TB.at_mk KX G ?a ?l ?c ?k (fun F => F.binds (ps := ["thing"]) fun _ _ _ _ _ _ us hl => match us, hl with | [_], _ => rfl)
        (case a => k_is); (case l => k_is); (case c => k_is); (case k => k_is)
      case d_boats_between =>
        refine' TB.at_mk KX G ?a ?l ?c ?k (fun F => F.binds (ps := ["start", "event"]) fun _ _ _ _ _ _ us hl => match us, hl with | [_, _], _ => rfl)
        (case a => k_is); (case l => k_is); (case c => k_is); (case k => k_is)
      case d_goes_ahead =>
        refine' TB.at_mk KX G ?a ?l ?c ?k (fun F => F.binds (ps := ["start", "event"]) fun _ _ _ _ _ _ us hl => match us, hl with | [_, _], _ => rfl)
        (case a => k_is); (case l => k_is); (case c => k_is); (case k => k_is)
      case d_touches_in =>
        refine' TB.at_mk KX G ?a ?l ?c ?k (fun F => F.binds (ps := ["sheet"]) fun _ _ _ _ _ _ us hl => match us, hl with | [_], _ => rfl)
        (case a => k_is); (case l => k_is); (case c => k_is); (case k => k_is)
      case d_is_crossed =>
        refine' TB.at_mk KX G ?a ?l ?c ?k (fun F => F.binds (ps := ["start", "one", "other"]) fun _ _ _ _ _ _ us hl => match us, hl with | [_, _, _], _ => rfl)
        (case a => k_is); (case l => k_is); (case c => k_is); (case k => k_is)
      case d_start_on =>
        refine' TB.at_mk KX G ?a ?l ?c ?k (fun F => F.binds (ps := ["meeting", "row", "k"]) fun _ _ _ _ _ _ us hl => match us, hl with | [_, _, _], _ => rfl)
        (case a => k_is); (case l => k_is); (case c => k_is); (case k => k_is)
      case d_laid_on =>
        refine' TB.at_mk KX G ?a ?l ?c ?k (fun F => F.binds (ps := ["meeting", "row", "k", "some"]) fun _ _ _ _ _ _ us hl => match us, hl with | [_, _, _, _], _ => rfl)
        (case a => k_is); (case l => k_is); (case c => k_is); (case k => k_is)
      case d_races_going =>
        refine' TB.at_mk KX G ?a ?l ?c ?k (fun F => F.binds (ps := ["meeting", "row"]) fun _ _ _ _ _ _ us hl => match us, hl with | [_, _], _ => rfl)
        (case a => k_is); (case l => k_is); (case c => k_is); (case k => k_is)
      case d_is_event =>
        refine' TB.at_mk KX G ?a ?l ?c ?k (fun F => F.binds (ps := ["thing"]) fun _ _ _ _ _ _ us hl => match us, hl with | [_], _ => rfl)
        (case a => k_is); (case l => k_is); (case c => k_is); (case k => k_is)
      case d_is_sheet =>
        refine' TB.at_mk KX G ?a ?l ?c ?k (fun F => F.binds (ps := ["thing"]) fun _ _ _ _ _ _ us hl => match us, hl with | [_], _ => rfl)
        (case a => k_is); (case l => k_is); (case c => k_is); (case k => k_is)
      case d_row_behind =>
        refine' TB.at_mk KX G ?a ?l ?c ?k (fun F => F.binds (ps := ["start", "sheet"]) fun _ _ _ _ _ _ us hl => match us, hl with | [_, _], _ => rfl)
        (case a => k_is); (case l => k_is); (case c => k_is); (case k => k_is)
      case d_strange_or_twice =>
        refine' TB.at_mk KX G ?a ?l ?c ?k (fun F => F.binds (ps := ["start", "sheet"]) fun _ _ _ _ _ _ us hl => match us, hl with | [_, _], _ => rfl)
        (case a => k_is); (case l => k_is); (case c => k_is); (case k => k_is)
      case d_touch_fault =>
        refine' TB.at_mk KX G ?a ?l ?c ?k (fun F => F.binds (ps := ["start", "reach", "sheet", "event"]) fun _ _ _ _ _ _ us hl => match us, hl with | [_, _, _, _], _ => rfl)
        (case a => k_is); (case l => k_is); (case c => k_is); (case k => k_is)
      case d_fault_of =>
        refine' TB.at_mk KX G ?a ?l ?c ?k (fun F => F.binds (ps := ["start", "reach", "sheet"]) fun _ _ _ _ _ _ us hl => match us, hl with | [_, _, _], _ => rfl)
        (case a => k_is); (case l => k_is); (case c => k_is); (case k => k_is)
      case d_length_of =>
        refine' TB.at_mk KX G ?a ?l ?c ?k (fun F => F.binds (ps := ["start", "event"]) fun _ _ _ _ _ _ us hl => match us, hl with | [_, _], _ => rfl)
        (case a => k_is); (case l => k_is); (case c => k_is); (case k => k_is)
      case d_order_of =>
        refine' TB.at_mk KX G ?a ?l ?c ?k (fun F => F.binds (ps := ["start", "reach", "sheet"]) fun _ _ _ _ _ _ us hl => match us, hl with | [_, _, _], _ => rfl)
        (case a => k_is); (case l => k_is); (case c => k_is); (case k => k_is)
      case d_is_day =>
        refine' TB.at_mk KX G ?a ?l ?c ?k (fun F => F.binds (ps := ["thing"]) fun _ _ _ _ _ _ us hl => match us, hl with | [_], _ => rfl)
        (case a => k_is); (case l => k_is); (case c => k_is); (case k => k_is)
      case d_day_behind =>
        refine' TB.at_mk KX G ?a ?l ?c ?k (fun F => F.binds (ps := ["meeting", "row", "day"]) fun _ _ _ _ _ _ us hl => match us, hl with | [_, _, _], _ => rfl)
        (case a => k_is); (case l => k_is); (case c => k_is); (case k => k_is)
      case d_starts_of =>
        refine' TB.at_mk KX G ?a ?l ?c ?k (fun F => F.binds (ps := ["meeting", "row", "day"]) fun _ _ _ _ _ _ us hl => match us, hl with | [_, _, _], _ => rfl)
        (case a => k_is); (case l => k_is); (case c => k_is); (case k => k_is)
      case d_all_rest =>
        refine' TB.at_mk KX G ?a ?l ?c ?k (fun F => F.binds (ps := ["meeting", "row", "resting", "day"]) fun _ _ _ _ _ _ us hl => match us, hl with | [_, _, _, _], _ => rfl)
        (case a => k_is); (case l => k_is); (case c => k_is); (case k => k_is)
      case d_shows_can =>
        refine' TB.at_mk KX G ?a ?l ?c ?k (fun F => F.binds (ps := ["meeting", "row", "resting", "many", "boat", "days"]) fun _ _ _ _ _ _ us hl => match us, hl with | [_, _, _, _, _, _], _ => rfl)
        (case a => k_is); (case l => k_is); (case c => k_is); (case k => k_is)
      case d__law_days_right =>
        refine' TB.at_mk KX G ?a ?l ?c ?k (fun F => F.binds (ps := ["_law_meeting", "_law_row", "_law_resting", "_law_boat", "_law_days"]) fun _ _ _ _ _ _ us hl => match us, hl with | [_, _, _, _, _], _ => rfl)
        (case a => k_is); (case l => k_is); (case c => k_is); (case k => k_is)
      case d_are_places =>
        refine' TB.at_mk KX G ?a ?l ?c ?k (fun F => F.binds (ps := ["n", "thing"]) fun _ _ _ _ _ _ us hl => match us, hl with | [_, _], _ => rfl)
        (case a => k_is); (case l => k_is); (case c => k_is); (case k => k_is)
      case d_moves_from =>
        refine' TB.at_mk KX G ?a ?l ?c ?k (fun F => F.binds (ps := ["meeting", "n", "places", "p"]) fun _ _ _ _ _ _ us hl => match us, hl with | [_, _, _, _], _ => rfl)
        (case a => k_is); (case l => k_is); (case c => k_is); (case k => k_is)
      case d_places_behind =>
        refine' TB.at_mk KX G ?a ?l ?c ?k (fun F => F.binds (ps := ["meeting", "n", "places", "p"]) fun _ _ _ _ _ _ us hl => match us, hl with | [_, _, _, _], _ => rfl)
        (case a => k_is); (case l => k_is); (case c => k_is); (case k => k_is)
      case d_day_by =>
        refine' TB.at_mk KX G ?a ?l ?c ?k (fun F => F.binds (ps := ["meeting", "row", "resting", "moves"]) fun _ _ _ _ _ _ us hl => match us, hl with | [_, _, _, _], _ => rfl)
        (case a => k_is); (case l => k_is); (case c => k_is); (case k => k_is)
      case d_days_by =>
        refine' TB.at_mk KX G ?a ?l ?c ?k (fun F => F.binds (ps := ["meeting", "row", "resting", "ways"]) fun _ _ _ _ _ _ us hl => match us, hl with | [_, _, _, _], _ => rfl)
        (case a => k_is); (case l => k_is); (case c => k_is); (case k => k_is)
      case d_further_on =>
        refine' TB.at_mk KX G ?a ?l ?c ?k (fun F => F.binds (ps := ["table", "here"]) fun _ _ _ _ _ _ us hl => match us, hl with | [_, _], _ => rfl)
        (case a => k_is); (case l => k_is); (case c => k_is); (case k => k_is)
      case d_head_thing =>
        refine' TB.at_mk KX G ?a ?l ?c ?k (fun F => F.binds (ps := ["meeting", "row", "resting", "table", "many", "p"]) fun _ _ _ _ _ _ us hl => match us, hl with | [_, _, _, _, _, _], _ => rfl)
        (case a => k_is); (case l => k_is); (case c => k_is); (case k => k_is)
      case d_heads_of =>
        refine' TB.at_mk KX G ?a ?l ?c ?k (fun F => F.binds (ps := ["meeting", "row", "resting", "many"]) fun _ _ _ _ _ _ us hl => match us, hl with | [_, _, _, _], _ => rfl)
        (case a => k_is); (case l => k_is); (case c => k_is); (case k => k_is)
      case d_shows_cannot =>
        refine' TB.at_mk KX G ?a ?l ?c ?k (fun F => F.binds (ps := ["meeting", "row", "resting", "many", "boat", "sets"]) fun _ _ _ _ _ _ us hl => match us, hl with | [_, _, _, _, _, _], _ => rfl)
        (case a => k_is); (case l => k_is); (case c => k_is); (case k => k_is)
      case d_shows_head =>
        refine' TB.at_mk KX G ?a ?l ?c ?k (fun F => F.binds (ps := ["meeting", "row", "resting", "many", "boat", "thing"]) fun _ _ _ _ _ _ us hl => match us, hl with | [_, _, _, _, _, _], _ => rfl)
        (case a => k_is); (case l => k_is); (case c => k_is); (case k => k_is)
      case d__law_told_right =>
        refine' TB.at_mk KX G ?a ?l ?c ?k (fun F => F.binds (ps := ["_law_meeting", "_law_rows", "_law_resting", "_law_boat", "_law_thing"]) fun _ _ _ _ _ _ us hl => match us, hl with | [_, _, _, _, _], _ => rfl)
        (case a => k_is); (case l => k_is); (case c => k_is); (case k => k_is)
      case d__law_take =>
        refine' TB.at_mk KX G ?a ?l ?c ?k (fun F => F.binds (ps := ["_law_pot", "_law_many"]) fun _ _ _ _ _ _ us hl => match us, hl with | [_, _], _ => rfl)
        (case a => k_is); (case l => k_is); (case c => k_is); (case k => k_is)
      case d__law_begin =>
        refine' TB.at_mk KX G ?a ?l ?c ?k (fun F => F.binds (ps := ["_law_script", "_law_k"]) fun _ _ _ _ _ _ us hl => match us, hl with | [_, _], _ => rfl)
        (case a => k_is); (case l => k_is); (case c => k_is); (case k => k_is)
      case d__law_span =>
        refine' TB.at_mk KX G ?a ?l ?c ?k (fun F => F.binds (ps := ["_law_meeting", "_law_n", "_law_k"]) fun _ _ _ _ _ _ us hl => match us, hl with | [_, _, _], _ => rfl)
        (case a => k_is); (case l => k_is); (case c => k_is); (case k => k_is)
      case d__law_many_races =>
        refine' TB.at_mk KX G ?a ?l ?c ?k (fun F => F.binds (ps := ["_law_meeting", "_law_n"]) fun _ _ _ _ _ _ us hl => match us, hl with | [_, _], _ => rfl)
        (case a => k_is); (case l => k_is); (case c => k_is); (case k => k_is)
      case d__law_sheet =>
        refine' TB.at_mk KX G ?a ?l ?c ?k (fun F => F.binds (ps := ["_law_start", "_law_word"]) fun _ _ _ _ _ _ us hl => match us, hl with | [_, _], _ => rfl)
        (case a => k_is); (case l => k_is); (case c => k_is); (case k => k_is)
      case d__law_raced =>
        refine' TB.at_mk KX G ?a ?l ?c ?k (fun F => F.binds (ps := ["_law_start", "_law_reach", "_law_sheet_here"]) fun _ _ _ _ _ _ us hl => match us, hl with | [_, _, _], _ => rfl)
        (case a => k_is); (case l => k_is); (case c => k_is); (case k => k_is)
      case d__law_marks =>
        refine' TB.at_mk KX G ?a ?l ?c ?k (fun F => F.binds (ps := ["_law_pot", "_law_reach", "_law_many"]) fun _ _ _ _ _ _ us hl => match us, hl with | [_, _, _], _ => rfl)
        (case a => k_is); (case l => k_is); (case c => k_is); (case k => k_is)
      case d__law_resting_day =>
        refine' TB.at_mk KX G ?a ?l ?c ?k (fun F => F.binds (ps := ["_law_pot", "_law_meeting", "_law_row", "_law_resting"]) fun _ _ _ _ _ _ us hl => match us, hl with | [_, _, _, _], _ => rfl)
        (case a => k_is); (case l => k_is); (case c => k_is); (case k => k_is)
      case d__law_boats =>
        refine' TB.at_mk KX G ?a ?l ?c ?k (fun F => F.binds (ps := ["_law_pot", "_law_many"]) fun _ _ _ _ _ _ us hl => match us, hl with | [_, _], _ => rfl)
        (case a => k_is); (case l => k_is); (case c => k_is); (case k => k_is)
      case nm =>
        refine' { m_isinstance := ?m_isinstance, m_str := ?m_str, m_int := ?m_int, m_bool := ?m_bool, m_tuple := ?m_tuple, m_list := ?m_list, m_dict := ?m_dict, m_len := ?m_len, m_range := ?m_range, m_reversed := ?m_reversed, m_min := ?m_min, m_max := ?m_max, m_sorted := ?m_sorted, m_enumerate := ?m_enumerate, m_zip := ?m_zip, m_all := ?m_all, m_any := ?m_any, m_set := ?m_set, m_abs := ?m_abs, m_repr := ?m_repr, gBS := ?gBS, gMS := ?gMS, gMB := ?gMB }
        (case m_isinstance => refine' PySem.W.mg_none_of KX G ?z; (case z => k_is))
        (case m_str => refine' PySem.W.mg_none_of KX G ?z; (case z => k_is))
        (case m_int => refine' PySem.W.mg_none_of KX G ?z; (case z => k_is))
        (case m_bool => refine' PySem.W.mg_none_of KX G ?z; (case z => k_is))
        (case m_tuple => refine' PySem.W.mg_none_of KX G ?z; (case z => k_is))
        (case m_list => refine' PySem.W.mg_none_of KX G ?z; (case z => k_is))
        (case m_dict => refine' PySem.W.mg_none_of KX G ?z; (case z => k_is))
        (case m_len => refine' PySem.W.mg_none_of KX G ?z; (case z => k_is))
        (case m_range => refine' PySem.W.mg_none_of KX G ?z; (case z => k_is))
        (case m_reversed => refine' PySem.W.mg_none_of KX G ?z; (case z => k_is))
        (case m_min => refine' PySem.W.mg_none_of KX G ?z; (case z => k_is))
        (case m_max => refine' PySem.W.mg_none_of KX G ?z; (case z => k_is))
        (case m_sorted => refine' PySem.W.mg_none_of KX G ?z; (case z => k_is))
        (case m_enumerate => refine' PySem.W.mg_none_of KX G ?z; (case z => k_is))
        (case m_zip => refine' PySem.W.mg_none_of KX G ?z; (case z => k_is))
        (case m_all => refine' PySem.W.mg_none_of KX G ?z; (case z => k_is))
        (case m_any => refine' PySem.W.mg_none_of KX G ?z; (case z => k_is))
        (case m_set => refine' PySem.W.mg_none_of KX G ?z; (case z => k_is))
        (case m_abs => refine' PySem.W.mg_none_of KX G ?z; (case z => k_is))
        (case m_repr => refine' PySem.W.mg_none_of KX G ?z; (case z => k_is))
        (case gBS => refine' ⟨_, PySem.W.mg_of KX G ?z, ?r⟩; (case z => k_is); (case r => first | rfl | exact ⟨_, rfl⟩))
        (case gMS => refine' ⟨_, PySem.W.mg_of KX G ?z, ?r⟩; (case z => k_is); (case r => first | rfl | exact ⟨_, rfl⟩))
        (case gMB => refine' ⟨_, PySem.W.mg_of KX G ?z, ?r⟩; (case z => k_is); (case r => first | rfl | exact ⟨_, rfl⟩))

