import PyProof.Rows.All
import Wide.All
import OpenK.AllK
import Wide.FinOn
import HandS.ForMost
import HandS.ForExc
import HandS.Wide
import HandS.Gcd
import HandS.TupLen
import HandS.DictTup
import HandS.DictComp
import HandS.Conv
import HandS.Style
import HandS.SortRule
import HandS.SortInts
import HandS.IsInst
import HandS.CallRecv
import HandS.More
import HandS.Flow
import KE.KDictDisplayH
import PyProof.DictCompW
import PyProof.ReprRoads
import PyProof.ReprBulk
import PySem.Challenge.RW_lastcoffer_k80_whole_no_way_does_better
set_option Elab.async false
set_option linter.all false
set_option maxRecDepth 100000
set_option maxHeartbeats 4000000
set_option pp.maxSteps 1500
/-! DL: a layer of data over the hand layer: what stands in a slot is told by a datum (PyData), the heap is kept out of sight. -/
namespace DL
open PySem L2

/-! ### heaps: all stands as it stood; a dict with tuple keys may have been locked, an instance's count may have changed -/
abbrev fs4 (vh vp vc : V) (n : Int) : List (Str × V) := [("house", vh), ("plan", vp), ("changes", vc), ("count", .int n)]
def Rel (o u : HO) : Prop := u = o ∨ (∃ kvs ob, o = HO.dT kvs ∧ u = HO.frz ob (HO.dT kvs)) ∨ ∃ C dx vh vp vc n n', o = HO.ins C dx (fs4 vh vp vc n) ∧ u = HO.ins C dx (fs4 vh vp vc n')
theorem Rel.trans {a b c : HO} (x : Rel a b) (y : Rel b c) : Rel a c := by
  rcases x with rfl | ⟨kvs, ob, rfl, rfl⟩ | ⟨C, dx, vh, vp, vc, n, n', rfl, rfl⟩
  · exact y
  · rcases y with rfl | ⟨_, _, e, _⟩ | ⟨_, _, _, _, _, _, _, e, _⟩
    · exact .inr (.inl ⟨kvs, ob, rfl, rfl⟩)
    · cases e
    · cases e
  · rcases y with rfl | ⟨_, _, e, _⟩ | ⟨C2, dx2, vh2, vp2, vc2, n2, n3, e, rfl⟩
    · exact .inr (.inr ⟨C, dx, vh, vp, vc, n, n', rfl, rfl⟩)
    · cases e
    · injection e with e1 e2 e3
      subst e1 e2
      injection e3 with e4 e5
      injection e5 with e5 e6
      injection e6 with e6 _
      injection e4 with _ e4
      injection e5 with _ e5
      injection e6 with _ e6
      subst e4 e5 e6
      exact .inr (.inr ⟨C, dx, vh, vp, vc, n, n3, rfl, rfl⟩)
def Ext (H H' : Hp) : Prop := ∀ a o, H a = some o → ∃ u, H' a = some u ∧ Rel o u
theorem Ext.refl (H : Hp) : Ext H H := fun _ o h => ⟨o, h, .inl rfl⟩
theorem Ext.trans {H H1 H2 : Hp} (a : Ext H H1) (b : Ext H1 H2) : Ext H H2 := fun x o h => by
  obtain ⟨u, h1, r1⟩ := a x o h
  obtain ⟨w, h2, r2⟩ := b x u h1
  exact ⟨w, h2, r1.trans r2⟩
theorem Ext.new {H : Hp} {p : Addr} {o : HO} (h : H p = none) : Ext H (upd H p o) := fun a u e => ⟨u, by
  rw [upd_ne (ne_of_none e h)]
  exact e, .inl rfl⟩
theorem Ext.there {H H' : Hp} {a : Addr} {o : HO} (e : Ext H H') (h : H a = some o) : ∃ u, H' a = some u := let ⟨u, q, _⟩ := e a o h; ⟨u, q⟩
theorem Ext.back {H H' : Hp} {a : Addr} (e : Ext H H') (h : H' a = none) : H a = none := by
  cases q : H a with
  | none => rfl
  | some o =>
    obtain ⟨u, hu⟩ := e.there q
    rw [h] at hu
    cases hu
/-- exact where no dict with tuple keys and no instance stands -/
theorem Ext.exact {H H' : Hp} {a : Addr} {o : HO} (e : Ext H H') (h : H a = some o) (n : ∀ kvs, o ≠ HO.dT kvs) (n2 : ∀ C dx gs, o ≠ HO.ins C dx gs) : H' a = some o := by
  obtain ⟨u, q, r⟩ := e a o h
  rcases r with rfl | ⟨kvs, _, z, _⟩ | ⟨C, dx, _, _, _, _, _, z, _⟩
  · exact q
  · exact absurd z (n kvs)
  · exact absurd z (n2 C dx _)
theorem Ext.rdL {H H' : Hp} {a : Addr} {xs : List V} (e : Ext H H') (h : Rd H a (.lst xs)) : Rd H' a (.lst xs) := by
  rcases h with h | ⟨o, h⟩
  · exact .inl (e.exact h (fun _ z => nomatch z) fun _ _ _ z => nomatch z)
  · exact .inr ⟨o, e.exact h (fun _ z => nomatch z) fun _ _ _ z => nomatch z⟩
theorem Ext.rdU {H H' : Hp} {a : Addr} {xs : List V} (e : Ext H H') (h : Rd H a (.tup xs)) : Rd H' a (.tup xs) := by
  rcases h with h | ⟨o, h⟩
  · exact .inl (e.exact h (fun _ z => nomatch z) fun _ _ _ z => nomatch z)
  · exact .inr ⟨o, e.exact h (fun _ z => nomatch z) fun _ _ _ z => nomatch z⟩
theorem Ext.rdT {H H' : Hp} {a : Addr} {kvs : List (List Key × V)} (e : Ext H H') (h : Rd H a (.dT kvs)) : Rd H' a (.dT kvs) := by
  rcases h with h | ⟨o, h⟩
  · obtain ⟨u, q, r⟩ := e a _ h
    rcases r with rfl | ⟨k2, ob, z, rfl⟩ | ⟨_, _, _, _, _, _, _, z, _⟩
    · exact .inl q
    · cases z
      exact .inr ⟨ob, q⟩
    · cases z
  · exact .inr ⟨o, e.exact h (fun _ z => nomatch z) fun _ _ _ z => nomatch z⟩
theorem Ext.l {K : PySem.W.Frag} {H H' : Hp} {a : Addr} {xs : List V} (e : Ext H H') (h : SqL K H a xs) : SqL K H' a xs := by
  rcases h with h | h
  · exact .inl (e.rdL h)
  · exact .inr h
theorem Ext.t {K : PySem.W.Frag} {H H' : Hp} {a : Addr} {xs : List V} (e : Ext H H') (h : SqT K H a xs) : SqT K H' a xs := by
  rcases h with h | h
  · exact .inl (e.rdU h)
  · exact .inr h

/-- the heap without the owned things -/
def hid (os : List Addr) (H : Hp) : Hp := fun a => if a ∈ os then none else H a
theorem hid_in {os : List Addr} {H : Hp} {a : Addr} (h : a ∈ os) : hid os H a = none := by unfold hid; rw [if_pos h]
theorem hid_out {os : List Addr} {H : Hp} {a : Addr} (h : a ∉ os) : hid os H a = H a := by unfold hid; rw [if_neg h]
theorem hid_some {os : List Addr} {H : Hp} {a : Addr} {o : HO} (h : hid os H a = some o) : a ∉ os ∧ H a = some o := by
  by_cases m : a ∈ os
  · rw [hid_in m] at h
    cases h
  · rw [hid_out m] at h
    exact ⟨m, h⟩
theorem hid_ext {os : List Addr} {H : Hp} : Ext (hid os H) H := fun a o h => ⟨o, (hid_some h).2, .inl rfl⟩
theorem Ext.hid {os : List Addr} {H H' : Hp} (e : Ext H H') : Ext (hid os H) (hid os H') := fun a o h => by
  obtain ⟨m, q⟩ := hid_some h
  rw [hid_out m]
  exact e a o q
theorem hid_sub {os os' : List Addr} {H : Hp} (s : ∀ a, a ∈ os' → a ∈ os) : Ext (hid os H) (hid os' H) := fun a o h => by
  obtain ⟨m, q⟩ := hid_some h
  exact ⟨o, by rw [hid_out fun z => m (s a z)]; exact q, .inl rfl⟩
theorem hid_upd_in {os : List Addr} {H : Hp} {p : Addr} {o : HO} (h : p ∈ os) : hid os (upd H p o) = hid os H := funext fun a => by
  by_cases m : a ∈ os
  · rw [hid_in m, hid_in m]
  · rw [hid_out m, hid_out m, upd_ne fun z => m (by rw [z]; exact h)]
theorem hid_upd_out {os : List Addr} {H : Hp} {p : Addr} {o : HO} (h : p ∉ os) : hid os (upd H p o) = upd (hid os H) p o := funext fun a => by
  by_cases z : a = p
  · subst z
    rw [hid_out h, upd_same, upd_same]
  · rw [upd_ne z]
    by_cases m : a ∈ os
    · rw [hid_in m, hid_in m]
    · rw [hid_out m, hid_out m, upd_ne z]
theorem hid_nil (H : Hp) : hid [] H = H := funext fun a => hid_out (by simp)

/-- a step: everything stands, the owned things exactly -/
structure Stp (os : List Addr) (H H' : Hp) : Prop where
  ext : Ext H H'
  own : ∀ a ∈ os, ∀ o, H a = some o → H' a = some o
theorem Stp.refl {os : List Addr} (H : Hp) : Stp os H H := ⟨Ext.refl H, fun _ _ _ h => h⟩
theorem Stp.trans {os : List Addr} {H H1 H2 : Hp} (a : Stp os H H1) (b : Stp os H1 H2) : Stp os H H2 := ⟨a.ext.trans b.ext, fun x m o h => b.own x m o (a.own x m o h)⟩
theorem Stp.new {os : List Addr} {H : Hp} {p : Addr} {o : HO} (h : H p = none) : Stp os H (upd H p o) := ⟨Ext.new h, fun a m u e => by
  rw [upd_ne (ne_of_none e h)]
  exact e⟩
theorem Stp.sub {os os' : List Addr} {H H' : Hp} (a : Stp os H H') (s : ∀ x, x ∈ os' → x ∈ os) : Stp os' H H' := ⟨a.ext, fun x m => a.own x (s x m)⟩

/-! ### a value and its datum. A pair of ints that serves as a key (a tuple of this heap) is told as .dict [(r, w)], a range object as .dict [(None, n)] -/
mutual
inductive Is (K : PySem.W.Frag) (H : Hp) : V → PyData → Prop
  | non : Is K H .non .none
  | bl (b : Bool) : Is K H (.bl b) (.bool b)
  | int (i : Int) : Is K H (.int i) (.int i)
  | str (x : Str) : Is K H (.str x) (.str x)
  | lst {a : Addr} {xs : List V} {ds : List PyData} : SqL K H a xs → IsAll K H xs ds → Is K H (.ref a) (.list ds)
  | tup {a : Addr} {xs : List V} {ds : List PyData} : SqT K H a xs → IsAll K H xs ds → Is K H (.ref a) (.tuple ds)
  | dct {a : Addr} {kvs : List (List Key × V)} {es : List (PyData × PyData)} : Rd H a (.dT kvs) → IsKV K H kvs es → Is K H (.ref a) (.dict es)
  | key {a : Addr} {r w : Int} : H a = some (.tup [.int r, .int w]) → Is K H (.ref a) (.dict [(.int r, .int w)])
  | rng {a : Addr} {n : Int} : H a = some (.rng 0 n) → Is K H (.ref a) (.dict [(.none, .int n)])
inductive IsAll (K : PySem.W.Frag) (H : Hp) : List V → List PyData → Prop
  | nil : IsAll K H [] []
  | cons {v : V} {vs : List V} {d : PyData} {ds : List PyData} : Is K H v d → IsAll K H vs ds → IsAll K H (v :: vs) (d :: ds)
inductive IsKV (K : PySem.W.Frag) (H : Hp) : List (List Key × V) → List (PyData × PyData) → Prop
  | nil : IsKV K H [] []
  | cons {r w : Int} {v : V} {d : PyData} {kvs : List (List Key × V)} {es : List (PyData × PyData)} : Is K H v d → IsKV K H kvs es →
      IsKV K H (([Sum.inl r, Sum.inl w], v) :: kvs) ((.tuple [.int r, .int w], d) :: es)
end
mutual
theorem Is.mono {K : PySem.W.Frag} {H H' : Hp} (e : Ext H H') : ∀ {v : V} {d : PyData}, Is K H v d → Is K H' v d
  | _, _, .non => .non
  | _, _, .bl b => .bl b
  | _, _, .int i => .int i
  | _, _, .str x => .str x
  | _, _, .lst h t => .lst (e.l h) (IsAll.mono e t)
  | _, _, .tup h t => .tup (e.t h) (IsAll.mono e t)
  | _, _, .dct h t => .dct (e.rdT h) (IsKV.mono e t)
  | _, _, .key h => .key (e.exact h (fun _ z => nomatch z) fun _ _ _ z => nomatch z)
  | _, _, .rng h => .rng (e.exact h (fun _ z => nomatch z) fun _ _ _ z => nomatch z)
theorem IsAll.mono {K : PySem.W.Frag} {H H' : Hp} (e : Ext H H') : ∀ {vs : List V} {ds : List PyData}, IsAll K H vs ds → IsAll K H' vs ds
  | _, _, .nil => .nil
  | _, _, .cons h t => .cons (Is.mono e h) (IsAll.mono e t)
theorem IsKV.mono {K : PySem.W.Frag} {H H' : Hp} (e : Ext H H') : ∀ {vs : List (List Key × V)} {ds : List (PyData × PyData)}, IsKV K H vs ds → IsKV K H' vs ds
  | _, _, .nil => .nil
  | _, _, .cons h t => .cons (Is.mono e h) (IsKV.mono e t)
end
theorem IsAll.len {K : PySem.W.Frag} {H : Hp} : ∀ {vs : List V} {ds : List PyData}, IsAll K H vs ds → vs.length = ds.length
  | _, _, .nil => rfl
  | _, _, .cons _ t => congrArg (· + 1) t.len
theorem IsAll.get {K : PySem.W.Frag} {H : Hp} : ∀ {vs : List V} {ds : List PyData} {i : Nat} {d : PyData}, IsAll K H vs ds → ds[i]? = some d → ∃ v, vs[i]? = some v ∧ Is K H v d
  | _, _, _, _, .nil, e => by simp at e
  | _, _, 0, _, .cons h _, e => by simp at e; subst e; exact ⟨_, rfl, h⟩
  | _, _, i + 1, _, .cons _ t, e => by
    obtain ⟨v, h1, h2⟩ := t.get (i := i) (by simpa using e)
    exact ⟨v, by simpa using h1, h2⟩
theorem IsAll.getV {K : PySem.W.Frag} {H : Hp} : ∀ {vs : List V} {ds : List PyData} {i : Nat} {v : V}, IsAll K H vs ds → vs[i]? = some v → ∃ d, ds[i]? = some d ∧ Is K H v d
  | _, _, _, _, .nil, e => by simp at e
  | _, _, 0, _, .cons h _, e => by simp at e; subst e; exact ⟨_, rfl, h⟩
  | _, _, i + 1, _, .cons _ t, e => by
    obtain ⟨v, h1, h2⟩ := t.getV (i := i) (by simpa using e)
    exact ⟨v, by simpa using h1, h2⟩
theorem IsAll.app {K : PySem.W.Frag} {H : Hp} : ∀ {vs ws : List V} {ds es : List PyData}, IsAll K H vs ds → IsAll K H ws es → IsAll K H (vs ++ ws) (ds ++ es)
  | _, _, _, _, .nil, t => t
  | _, _, _, _, .cons h t, u => .cons h (t.app u)
theorem IsAll.rev {K : PySem.W.Frag} {H : Hp} : ∀ {vs : List V} {ds : List PyData}, IsAll K H vs ds → IsAll K H vs.reverse ds.reverse
  | _, _, .nil => .nil
  | _, _, .cons h t => by
    rw [List.reverse_cons, List.reverse_cons]
    exact t.rev.app (.cons h .nil)
theorem IsAll.dropn {K : PySem.W.Frag} {H : Hp} : ∀ {vs : List V} {ds : List PyData} (n : Nat), IsAll K H vs ds → IsAll K H (vs.drop n) (ds.drop n)
  | _, _, 0, t => t
  | _, _, _ + 1, .nil => .nil
  | _, _, n + 1, .cons _ t => t.dropn n
theorem IsAll.taken {K : PySem.W.Frag} {H : Hp} : ∀ {vs : List V} {ds : List PyData} (n : Nat), IsAll K H vs ds → IsAll K H (vs.take n) (ds.take n)
  | _, _, 0, _ => .nil
  | _, _, _ + 1, .nil => .nil
  | _, _, n + 1, .cons h t => .cons h (t.taken n)
theorem IsAll.ints {K : PySem.W.Frag} {H : Hp} : ∀ {ns : List Int}, IsAll K H (ns.map V.int) (ns.map PyData.int)
  | [] => .nil
  | n :: ns => .cons (.int n) IsAll.ints
theorem IsAll.ofInts {K : PySem.W.Frag} {H : Hp} : ∀ {vs : List V} {ns : List Int}, IsAll K H vs (ns.map PyData.int) → vs = ns.map V.int
  | _, [], h => by cases h; rfl
  | _, n :: ns, h => by
    cases h with
    | cons a b =>
      cases a
      rw [IsAll.ofInts b]
      rfl
theorem IsAll.ofBools {K : PySem.W.Frag} {H : Hp} : ∀ {vs : List V} {ns : List Bool}, IsAll K H vs (ns.map PyData.bool) → vs = ns.map V.bl
  | _, [], h => by cases h; rfl
  | _, n :: ns, h => by
    cases h with
    | cons a b =>
      cases a
      rw [IsAll.ofBools b]
      rfl
theorem IsKV.len {K : PySem.W.Frag} {H : Hp} : ∀ {vs : List (List Key × V)} {ds : List (PyData × PyData)}, IsKV K H vs ds → vs.length = ds.length
  | _, _, .nil => rfl
  | _, _, .cons _ t => congrArg (· + 1) t.len

/-! ### the symbolic state -/
inductive SD where
  | any
  | dat (d : PyData)
  | val (v : V)
inductive MO where
  | ml (ds : List PyData)
  | mT (l : List ((Int × Int) × PyData))
  | mK (es : List (Int × PyData))
  | mI (C dx : Addr) (gs : List (Str × V))
structure SS where
  H0 : Hp
  os0 : List Addr
  mu : List (Addr × MO)
  rho : List SD
abbrev SS.os (S : SS) : List Addr := S.mu.map (·.1) ++ S.os0

/-! tables -/
section
variable {κ κ' β : Type} [DecidableEq κ] [DecidableEq κ']
def look (l : List (κ × β)) (k : κ) : Option β := (l.find? fun x => decide (x.1 = k)).map (·.2)
/-- in its place, or at the end -/
def put (l : List (κ × β)) (k : κ) (b : β) : List (κ × β) := if (l.any fun x => decide (x.1 = k)) = true then l.map (fun x => if x.1 = k then (x.1, b) else x) else l ++ [(k, b)]
theorem put_len (l : List (κ × β)) (k : κ) (b : β) : (put l k b).length ≤ l.length + 1 := by
  unfold put
  split
  · rw [List.length_map]; omega
  · rw [List.length_append, List.length_cons, List.length_nil]; omega
end
inductive IsM {κ κ' : Type} (f : κ' → κ) (K : PySem.W.Frag) (H : Hp) : List (κ × V) → List (κ' × PyData) → Prop
  | nil : IsM f K H [] []
  | cons {k : κ'} {v : V} {d : PyData} {kvs : List (κ × V)} {l : List (κ' × PyData)} : Is K H v d → IsM f K H kvs l → IsM f K H ((f k, v) :: kvs) ((k, d) :: l)
section
variable {κ κ' : Type} {f : κ' → κ} {K : PySem.W.Frag} {H H' : Hp}
theorem IsM.mono (e : Ext H H') : ∀ {vs : List (κ × V)} {ds : List (κ' × PyData)}, IsM f K H vs ds → IsM f K H' vs ds
  | _, _, .nil => .nil
  | _, _, .cons h t => .cons (h.mono e) (IsM.mono e t)
theorem IsM.len : ∀ {vs : List (κ × V)} {ds : List (κ' × PyData)}, IsM f K H vs ds → vs.length = ds.length
  | _, _, .nil => rfl
  | _, _, .cons _ t => congrArg (· + 1) t.len
theorem IsM.keys : ∀ {vs : List (κ × V)} {ds : List (κ' × PyData)}, IsM f K H vs ds → vs.map (·.1) = (ds.map (·.1)).map f
  | _, _, .nil => rfl
  | _, _, .cons _ t => congrArg (_ :: ·) t.keys
theorem IsM.get : ∀ {vs : List (κ × V)} {ds : List (κ' × PyData)} {i : Nat} {k : κ} {v : V}, IsM f K H vs ds → vs[i]? = some (k, v) → ∃ k' d, ds[i]? = some (k', d) ∧ k = f k' ∧ Is K H v d
  | _, _, _, _, _, .nil, e => by simp at e
  | _, _, 0, _, _, .cons h _, e => by
    simp at e
    obtain ⟨rfl, rfl⟩ := e
    exact ⟨_, _, rfl, rfl, h⟩
  | _, _, i + 1, _, _, .cons _ t, e => by
    obtain ⟨k', d, h1, h2⟩ := t.get (i := i) (by simpa using e)
    exact ⟨k', d, by simpa using h1, h2⟩
variable [DecidableEq κ] [DecidableEq κ']
theorem IsM.any (inj : ∀ a b, f a = f b → a = b) (k : κ') : ∀ {vs : List (κ × V)} {ds : List (κ' × PyData)}, IsM f K H vs ds → (vs.any fun x => decide (x.1 = f k)) = (ds.any fun x => decide (x.1 = k))
  | _, _, .nil => rfl
  | _, _, .cons (k := k0) h t => by
    rw [List.any_cons, List.any_cons, t.any inj k]
    congr 1
    by_cases e : k0 = k
    · subst e; simp
    · have e' : ¬ f k0 = f k := fun z => e (inj _ _ z)
      simp [e, e']
theorem IsM.repl (inj : ∀ a b, f a = f b → a = b) (k : κ') {v : V} {d : PyData} (i : Is K H v d) : ∀ {vs : List (κ × V)} {ds : List (κ' × PyData)}, IsM f K H vs ds →
    IsM f K H (vs.map fun x => if x.1 = f k then (x.1, v) else x) (ds.map fun x => if x.1 = k then (x.1, d) else x)
  | _, _, .nil => .nil
  | _, _, .cons (k := k0) h t => by
    rw [List.map_cons, List.map_cons]
    by_cases e : k0 = k
    · rw [if_pos (congrArg f e), if_pos e]
      exact .cons i (t.repl inj k i)
    · rw [if_neg fun z => e (inj _ _ z), if_neg e]
      exact .cons h (t.repl inj k i)
theorem IsM.snoc {k : κ'} {v : V} {d : PyData} (i : Is K H v d) : ∀ {vs : List (κ × V)} {ds : List (κ' × PyData)}, IsM f K H vs ds → IsM f K H (vs ++ [(f k, v)]) (ds ++ [(k, d)])
  | _, _, .nil => .cons i .nil
  | _, _, .cons h t => .cons h (t.snoc i)
theorem IsM.put (inj : ∀ a b, f a = f b → a = b) (k : κ') {v : V} {d : PyData} (i : Is K H v d) {vs : List (κ × V)} {ds : List (κ' × PyData)} (h : IsM f K H vs ds) : IsM f K H (putK vs (f k) v) (put ds k d) := by
  unfold putK DL.put
  rw [h.any inj k]
  split
  · exact h.repl inj k i
  · exact h.snoc i
theorem IsM.look (inj : ∀ a b, f a = f b → a = b) (k : κ') : ∀ {vs : List (κ × V)} {ds : List (κ' × PyData)}, IsM f K H vs ds → (look ds k = none ∧ valV vs (f k) = none) ∨ ∃ v d, look ds k = some d ∧ valV vs (f k) = some v ∧ Is K H v d
  | _, _, .nil => .inl ⟨rfl, rfl⟩
  | _, _, .cons (k := k0) (v := v0) (d := d0) h t => by
    by_cases e : k0 = k
    · subst e
      exact .inr ⟨v0, d0, by simp [DL.look], by simp [valV], h⟩
    · have e1 : ∀ l, DL.look ((k0, d0) :: l) k = DL.look l k := fun l => by simp [DL.look, e]
      have e' : ¬ f k0 = f k := fun z => e (inj _ _ z)
      have e2 : ∀ l, valV ((f k0, v0) :: l) (f k) = valV l (f k) := fun l => valV_neg e'
      rw [e1, e2]
      exact t.look inj k
end
abbrev kT (x : Int × Int) : List Key := [Sum.inl x.1, Sum.inl x.2]
abbrev kI (x : Int) : Key := Sum.inl x
theorem kT_inj : ∀ a b, kT a = kT b → a = b := fun a b h => by
  injection h with h1 h2
  injection h2 with h2 _
  exact Prod.ext (Sum.inl.inj h1) (Sum.inl.inj h2)
theorem kI_inj : ∀ a b, kI a = kI b → a = b := fun a b h => Sum.inl.inj h
/-- a table whose keys are pairs of ints, as a datum -/
abbrev stD (x : Int × Int) : PyData := .dict [(.int x.1, .int x.2)]
def kvE (l : List ((Int × Int) × PyData)) : List (PyData × PyData) := l.map fun x => (.tuple [.int x.1.1, .int x.1.2], x.2)
theorem IsM.kv {K : PySem.W.Frag} {H : Hp} : ∀ {kvs : List (List Key × V)} {l : List ((Int × Int) × PyData)}, IsM kT K H kvs l → IsKV K H kvs (kvE l)
  | _, _, .nil => .nil
  | _, _, .cons h t => .cons h t.kv
theorem IsKV.m {K : PySem.W.Frag} {H : Hp} : ∀ {l : List ((Int × Int) × PyData)} {kvs : List (List Key × V)}, IsKV K H kvs (kvE l) → IsM kT K H kvs l
  | [], _, h => by
    cases h
    exact .nil
  | ((r, w), d) :: l, _, h => by
    cases h with
    | cons h t => exact .cons (k := (r, w)) h (IsKV.m t)

/-- what an owned thing holds; Hh: the heap without the owned things -/
def MIs (K : PySem.W.Frag) (Hh H : Hp) (p : Addr) : MO → Prop
  | .ml ds => ∃ xs, H p = some (.lst xs) ∧ IsAll K Hh xs ds
  | .mT es => ∃ kvs, H p = some (.dT kvs) ∧ IsM kT K Hh kvs es
  | .mK es => ∃ kvs, H p = some (.dK kvs) ∧ IsM kI K Hh kvs es
  | .mI C dx gs => H p = some (.ins C dx gs)
/-- not a tuple -/
def NT : HO → Prop
  | .tup _ => False
  | _ => True
theorem MIs.nt {K : PySem.W.Frag} {Hh H : Hp} {p : Addr} {m : MO} (h : MIs K Hh H p m) : ∃ o, H p = some o ∧ NT o := by
  cases m with
  | ml ds => obtain ⟨xs, h, _⟩ := h; exact ⟨_, h, trivial⟩
  | mT es => obtain ⟨xs, h, _⟩ := h; exact ⟨_, h, trivial⟩
  | mK es => obtain ⟨xs, h, _⟩ := h; exact ⟨_, h, trivial⟩
  | mI C dx gs => exact ⟨_, h, trivial⟩
theorem MIs.keep {K : PySem.W.Frag} {Hh Hh' H H' : Hp} {p : Addr} {m : MO} (h : MIs K Hh H p m) (e : Ext Hh Hh') (k : ∀ o, H p = some o → H' p = some o) : MIs K Hh' H' p m := by
  cases m with
  | ml ds => obtain ⟨xs, h, t⟩ := h; exact ⟨xs, k _ h, t.mono e⟩
  | mT es => obtain ⟨xs, h, t⟩ := h; exact ⟨xs, k _ h, t.mono e⟩
  | mK es => obtain ⟨xs, h, t⟩ := h; exact ⟨xs, k _ h, t.mono e⟩
  | mI C dx gs => exact k _ h

def SDOk (K : PySem.W.Frag) (H : Hp) (s : Option V) : SD → Prop
  | .any => True
  | .dat d => ∃ v, s = some v ∧ Is K H v d
  | .val v => s = some v
theorem SDOk.mono {K : PySem.W.Frag} {H H' : Hp} {s : Option V} {d : SD} (h : SDOk K H s d) (e : Ext H H') : SDOk K H' s d := by
  cases d with
  | any => trivial
  | dat d => obtain ⟨v, h, i⟩ := h; exact ⟨v, h, i.mono e⟩
  | val v => exact h
/-- the slots as rho tells them -/
inductive EnvOk (K : PySem.W.Frag) (H : Hp) : L2.St → List SD → Prop
  | nil : EnvOk K H [] []
  | cons {s : Option V} {d : SD} {σ : L2.St} {ρ : List SD} : SDOk K H s d → EnvOk K H σ ρ → EnvOk K H (s :: σ) (d :: ρ)
section
variable {K : PySem.W.Frag} {H H' : Hp}
theorem EnvOk.mono (e : Ext H H') : ∀ {σ : L2.St} {ρ : List SD}, EnvOk K H σ ρ → EnvOk K H' σ ρ
  | _, _, .nil => .nil
  | _, _, .cons h t => .cons (h.mono e) (EnvOk.mono e t)
theorem EnvOk.len : ∀ {σ : L2.St} {ρ : List SD}, EnvOk K H σ ρ → σ.length = ρ.length
  | _, _, .nil => rfl
  | _, _, .cons _ t => congrArg (· + 1) t.len
theorem EnvOk.dat : ∀ {σ : L2.St} {ρ : List SD} {i : Nat} {d : PyData}, EnvOk K H σ ρ → ρ[i]? = some (.dat d) → ∃ v, σ[i]? = some (some v) ∧ Is K H v d
  | _, _, _, _, .nil, e => by simp at e
  | _, _, 0, _, .cons h _, e => by
    simp at e
    subst e
    obtain ⟨v, rfl, q⟩ := h
    exact ⟨v, rfl, q⟩
  | _, _, i + 1, _, .cons _ t, e => by
    obtain ⟨v, h1, h2⟩ := t.dat (i := i) (by simpa using e)
    exact ⟨v, by simpa using h1, h2⟩
theorem EnvOk.val : ∀ {σ : L2.St} {ρ : List SD} {i : Nat} {v : V}, EnvOk K H σ ρ → ρ[i]? = some (.val v) → σ[i]? = some (some v)
  | _, _, _, _, .nil, e => by simp at e
  | _, _, 0, _, .cons h _, e => by
    simp at e
    subst e
    have h' : _ = some _ := h
    subst h'
    rfl
  | _, _, i + 1, _, .cons _ t, e => by
    have h1 := t.val (i := i) (by simpa using e)
    simpa using h1
theorem EnvOk.set {v : V} {d : SD} (h : SDOk K H (some v) d) : ∀ {σ : L2.St} {ρ : List SD} (i : Nat), EnvOk K H σ ρ → EnvOk K H (σ.set i (some v)) (ρ.set i d)
  | _, _, _, .nil => .nil
  | _, _, 0, .cons _ t => .cons h t
  | _, _, i + 1, .cons q t => .cons q (EnvOk.set h i t)
theorem EnvOk.forget : ∀ {σ : L2.St} {ρ : List SD} (s : Option V) (i : Nat), EnvOk K H σ ρ → EnvOk K H (σ.set i s) (ρ.set i .any)
  | _, _, _, _, .nil => .nil
  | _, _, _, 0, .cons _ t => .cons trivial t
  | _, _, s, i + 1, .cons q t => .cons q (EnvOk.forget s i t)
/-- a weaker telling -/
inductive Weak : List SD → List SD → Prop
  | nil : Weak [] []
  | same {d : SD} {ρ ρ' : List SD} : Weak ρ ρ' → Weak (d :: ρ) (d :: ρ')
  | drop {d : SD} {ρ ρ' : List SD} : Weak ρ ρ' → Weak (d :: ρ) (.any :: ρ')
theorem Weak.refl : ∀ ρ : List SD, Weak ρ ρ
  | [] => .nil
  | _ :: ρ => .same (Weak.refl ρ)
theorem EnvOk.weak : ∀ {σ : L2.St} {ρ ρ' : List SD}, EnvOk K H σ ρ → Weak ρ ρ' → EnvOk K H σ ρ'
  | _, _, _, .nil, .nil => .nil
  | _, _, _, .cons h t, .same w => .cons h (t.weak w)
  | _, _, _, .cons h t, .drop w => .cons trivial (t.weak w)
end

structure SA (K : PySem.W.Frag) (S : SS) (σ : L2.St) (H : Hp) : Prop where
  stp : Stp S.os0 S.H0 H
  dom : ∀ a ∈ S.os0, ∃ o, S.H0 a = some o ∧ NT o
  nd : (S.mu.map (·.1)).Nodup
  new : ∀ a ∈ S.mu.map (·.1), S.H0 a = none
  mok : ∀ p ∈ S.mu, MIs K (hid S.os H) H p.1 p.2
  env : EnvOk K (hid S.os H) σ S.rho
section
variable {K : PySem.W.Frag} {S : SS} {σ : L2.St} {H H' : Hp}
theorem SA.step (h : SA K S σ H) (s : Stp S.os H H') : SA K S σ H' :=
  ⟨h.stp.trans (s.sub fun _ m => List.mem_append_right _ m), h.dom, h.nd, h.new,
    fun p m => (h.mok p m).keep s.ext.hid fun o => s.own p.1 (List.mem_append_left _ (List.mem_map.mpr ⟨p, m, rfl⟩)) o, h.env.mono s.ext.hid⟩
/-- the owned things stand, and are no tuples -/
theorem SA.nt (h : SA K S σ H) : ∀ a ∈ S.os, ∃ o, H a = some o ∧ NT o := fun a m => by
  rcases List.mem_append.mp m with m | m
  · obtain ⟨p, hp, rfl⟩ := List.mem_map.mp m
    exact (h.mok p hp).nt
  · obtain ⟨o, h1, h2⟩ := h.dom a m
    exact ⟨o, h.stp.own a m o h1, h2⟩
theorem SA.fresh (h : SA K S σ H) {p : Addr} (hp : H p = none) : p ∉ S.os := fun m => by
  obtain ⟨o, e, _⟩ := h.nt p m
  rw [hp] at e
  cases e
theorem SA.tupOut (h : SA K S σ H) {p : Addr} {xs : List V} (hp : H p = some (.tup xs)) : p ∉ S.os := fun m => by
  obtain ⟨o, e, n⟩ := h.nt p m
  rw [hp] at e
  cases e
  exact n
end
end DL

namespace DL
open PySem L2

/-! ### expressions by data -/
def tD (K : PySem.W.Frag) (S : SS) (d : PyData) : TE := fun σ H Q => SA K S σ H ∧ ∀ v H', Stp S.os H H' → Is K (hid S.os H') v d → Q v H'
/-- .. a value told as it is -/
def tV (K : PySem.W.Frag) (S : SS) (v : V) : TE := fun σ H Q => SA K S σ H ∧ ∀ H', Stp S.os H H' → Q v H'
def tDT (K : PySem.W.Frag) (S : SS) (b : Bool) : TT := fun σ H Q => SA K S σ H ∧ ∀ H', Stp S.os H H' → Q b H'
def tDA (K : PySem.W.Frag) (S : SS) (ds : List PyData) : TA := fun σ H Q => SA K S σ H ∧ ∀ vs H', Stp S.os H H' → IsAll K (hid S.os H') vs ds → Q vs H'
abbrev VE (X : Cx) (S : SS) (e : Expr) (d : PyData) : Prop := PE X e (tD X.K S d)
abbrev VV (X : Cx) (S : SS) (e : Expr) (v : V) : Prop := PE X e (tV X.K S v)
abbrev VT (X : Cx) (S : SS) (e : Expr) (b : Bool) : Prop := PT X e (tDT X.K S b)
abbrev VA (X : Cx) (S : SS) (es : List Expr) (ds : List PyData) : Prop := PA X es (tDA X.K S ds)
theorem PEimp {X : Cx} {e : Expr} {t t' : TE} (h : PE X e t) (k : ∀ σ H Q, t' σ H Q → t σ H Q) : PE X e t' := ⟨fun pins s σ H Q I q => h.run pins s σ H Q I (k σ H Q q)⟩
theorem PTimp {X : Cx} {e : Expr} {t t' : TT} (h : PT X e t) (k : ∀ σ H Q, t' σ H Q → t σ H Q) : PT X e t' := ⟨fun pins s σ H Q I q => h.run pins s σ H Q I (k σ H Q q)⟩
theorem PWimp {X : Cx} {e : Expr} {t t' : TT} (h : PW X e t) (k : ∀ σ H Q, t' σ H Q → t σ H Q) : PW X e t' := ⟨fun wh pins s σ H Q I q => h.run wh pins s σ H Q I (k σ H Q q)⟩
theorem PAimp {X : Cx} {e : List Expr} {t t' : TA} (h : PA X e t) (k : ∀ σ H Q, t' σ H Q → t σ H Q) : PA X e t' := ⟨fun pos pins s σ H Q I q => h.run pos pins s σ H Q I (k σ H Q q)⟩
/-- what is wanted of a value that is d -/
abbrev Want (K : PySem.W.Frag) (S : SS) (d : PyData) (H : Hp) (Q : VK) : Prop := ∀ v H', Stp S.os H H' → Is K (hid S.os H') v d → Q v H'
theorem Want.here {K : PySem.W.Frag} {S : SS} {d : PyData} {H : Hp} {Q : VK} (q : Want K S d H Q) {v : V} (i : Is K (hid S.os H) v d) : Q v H := q v H (Stp.refl H) i
theorem Want.later {K : PySem.W.Frag} {S : SS} {d : PyData} {H H1 : Hp} {Q : VK} (q : Want K S d H Q) (s : Stp S.os H H1) : Want K S d H1 Q := fun v H' s' i => q v H' (s.trans s') i

section
variable {X : Cx} {S : SS} {e a b c : Expr} {d d1 d2 d3 : PyData} {pos : Pos}
theorem ve_eq (h : VE X S e d1) (q : d1 = d) : VE X S e d := q ▸ h
theorem vt_eq {k k' : Bool} (h : VT X S e k) (q : k = k') : VT X S e k' := q ▸ h
theorem ve_var (i : Nat) {x : Str} (hd : S.rho[i]? = some (.dat d)) (hN : X.N[i]? = some x := by rfl) (hv : Vis X.env.scope x := by first | exact Or.inl rfl | exact Or.inr (Or.inl rfl) | exact Or.inr (Or.inr rfl))
    (h1 : (x == ("__debug__" : Str)) = false := by decide) (h2 : (x == ("__classdict__" : Str)) = false := by decide) : VE X S (.Name x pos) d :=
  PEimp (pv i hN hv h1 h2) fun σ H Q ⟨s, q⟩ => by
    obtain ⟨v, h3, h4⟩ := s.env.dat hd
    exact ⟨v, h3, q v H (Stp.refl H) h4⟩
theorem vv_var (i : Nat) {x : Str} {v : V} (hd : S.rho[i]? = some (.val v)) (hN : X.N[i]? = some x := by rfl) (hv : Vis X.env.scope x := by first | exact Or.inl rfl | exact Or.inr (Or.inl rfl) | exact Or.inr (Or.inr rfl))
    (h1 : (x == ("__debug__" : Str)) = false := by decide) (h2 : (x == ("__classdict__" : Str)) = false := by decide) : VV X S (.Name x pos) v :=
  PEimp (pv i hN hv h1 h2) fun σ H Q ⟨s, q⟩ => ⟨v, s.env.val hd, q H (Stp.refl H)⟩
theorem ve_int {i : Int} {j} : VE X S (.Constant (.int i) j pos) (.int i) := PEimp pe_int fun σ H Q ⟨s, q⟩ => q _ H (Stp.refl H) (.int i)
theorem ve_str {i : Str} {j} : VE X S (.Constant (.str i) j pos) (.str i) := PEimp pe_str fun σ H Q ⟨s, q⟩ => q _ H (Stp.refl H) (.str i)
theorem ve_bl {i : Bool} {j} : VE X S (.Constant (.bool i) j pos) (.bool i) := PEimp pe_bl fun σ H Q ⟨s, q⟩ => q _ H (Stp.refl H) (.bl i)
theorem ve_non {j} : VE X S (.Constant .none j pos) .none := PEimp pe_non fun σ H Q ⟨s, q⟩ => q _ H (Stp.refl H) .non
/-- a constant of the module -/
theorem ve_glob {x : Str} {u : Value} {v : V} (hm : X.mg x = some u) (r : RelV v u) (hi : ∀ H, Is X.K H v d) (hg : Gl X x := by rfl) (h1 : (x == ("__debug__" : Str)) = false := by decide) : VE X S (.Name x pos) d :=
  PEimp (pe_glob hg hm r h1) fun σ H Q ⟨s, q⟩ => q _ H (Stp.refl H) (hi _)
theorem ve_bin {op : Operator} {r : R2} (ho : OpR X (binaryOp op) r) (ha : VE X S a d1) (hb : VE X S b d2)
    (hr : ∀ v1 v2 σ H Q, SA X.K S σ H → Is X.K (hid S.os H) v1 d1 → Is X.K (hid S.os H) v2 d2 → Want X.K S d H Q → r v1 v2 H Q) : VE X S (.BinOp a op b pos) d :=
  PEimp (pe_op ho ha hb) fun σ H Q ⟨s, q⟩ => ⟨s, fun v1 H1 s1 i1 => ⟨s.step s1, fun v2 H2 s2 i2 => hr v1 v2 σ H2 Q ((s.step s1).step s2) (i1.mono s2.ext.hid) i2 (Want.later q (s1.trans s2))⟩⟩
theorem ve_una {op : UnaryOp} {r : V → Hp → VK → Prop} (ho : UnR X (unaryOp op) r) (ha : VE X S a d1)
    (hr : ∀ v1 σ H Q, SA X.K S σ H → Is X.K (hid S.os H) v1 d1 → Want X.K S d H Q → r v1 H Q) : VE X S (.UnaryOp op a pos) d :=
  PEimp (pe_un ho ha) fun σ H Q ⟨s, q⟩ => ⟨s, fun v1 H1 s1 i1 => hr v1 σ H1 Q (s.step s1) i1 (Want.later q s1)⟩
theorem ve_cmpG {op : CmpOp} {r : R2} (ho : OpR X (compareOp op) r) (ha : VE X S a d1) (hb : VE X S b d2) (hm : behindInMarks op b = false)
    (hr : ∀ v1 v2 σ H Q, SA X.K S σ H → Is X.K (hid S.os H) v1 d1 → Is X.K (hid S.os H) v2 d2 → Want X.K S d H Q → r v1 v2 H Q) : VE X S (.Compare a [op] [b] pos) d :=
  PEimp (pe_cmpR ho ha hb hm) fun σ H Q ⟨s, q⟩ => ⟨s, fun v1 H1 s1 i1 => ⟨s.step s1, fun v2 H2 s2 i2 => hr v1 v2 σ H2 Q ((s.step s1).step s2) (i1.mono s2.ext.hid) i2 (Want.later q (s1.trans s2))⟩⟩
theorem vt_cmpG {op : CmpOp} {r : R2} {k : Bool} (ho : OpR X (compareOp op) r) (ha : VE X S a d1) (hb : VE X S b d2) (hm : behindInMarks op b = false)
    (hr : ∀ v1 v2 σ H Q, SA X.K S σ H → Is X.K (hid S.os H) v1 d1 → Is X.K (hid S.os H) v2 d2 → Want X.K S (.bool k) H Q → r v1 v2 H Q) : VT X S (.Compare a [op] [b] pos) k :=
  PTimp (pt_cmpR ho ha hb hm) fun σ H Q ⟨s, q⟩ => ⟨s, fun v1 H1 s1 i1 => ⟨s.step s1, fun v2 H2 s2 i2 => hr v1 v2 σ H2 _ ((s.step s1).step s2) (i1.mono s2.ext.hid) i2 fun v H3 s3 i3 => by
    cases i3
    exact ⟨k, rfl, q H3 ((s1.trans s2).trans s3)⟩⟩⟩
theorem i_int {K : PySem.W.Frag} {H : Hp} {v : V} {i : Int} (h : Is K H v (.int i)) : v = .int i := by cases h; rfl
theorem i_bl {K : PySem.W.Frag} {H : Hp} {v : V} {i : Bool} (h : Is K H v (.bool i)) : v = .bl i := by cases h; rfl
theorem i_str {K : PySem.W.Frag} {H : Hp} {v : V} {i : Str} (h : Is K H v (.str i)) : v = .str i := by cases h; rfl
theorem i_non {K : PySem.W.Frag} {H : Hp} {v : V} (h : Is K H v .none) : v = .non := by cases h; rfl
theorem i_lst {K : PySem.W.Frag} {H : Hp} {v : V} {ds : List PyData} (h : Is K H v (.list ds)) : ∃ a xs, v = .ref a ∧ SqL K H a xs ∧ IsAll K H xs ds := by cases h with | lst h t => exact ⟨_, _, rfl, h, t⟩
theorem i_tup {K : PySem.W.Frag} {H : Hp} {v : V} {ds : List PyData} (h : Is K H v (.tuple ds)) : ∃ a xs, v = .ref a ∧ SqT K H a xs ∧ IsAll K H xs ds := by cases h with | tup h t => exact ⟨_, _, rfl, h, t⟩
theorem kvE_no {l : List ((Int × Int) × PyData)} {r w : Int} (h : kvE l = [(.int r, .int w)]) : False := by
  cases l with
  | nil => cases h
  | cons x l =>
    unfold kvE at h
    rw [List.map_cons] at h
    injection h with h _
    injection h with h _
    cases h
theorem kvE_no2 {l : List ((Int × Int) × PyData)} {w : Int} (h : kvE l = [(.none, .int w)]) : False := by
  cases l with
  | nil => cases h
  | cons x l =>
    unfold kvE at h
    rw [List.map_cons] at h
    injection h with h _
    injection h with h _
    cases h
theorem i_rng {K : PySem.W.Frag} {H : Hp} {v : V} {n : Int} (h : Is K H v (.dict [(.none, .int n)])) : ∃ a, v = .ref a ∧ H a = some (.rng 0 n) := by
  generalize e : PyData.dict [(.none, .int n)] = q at h
  cases h with
  | dct h t =>
    injection e with e
    subst e
    nomatch t
  | key h =>
    injection e with e
    injection e with e _
    injection e with e1 _
    cases e1
  | rng h =>
    injection e with e
    injection e with e _
    injection e with _ e2
    injection e2 with e2
    subst e2
    exact ⟨_, rfl, h⟩
  | _ => cases e
theorem i_dct {K : PySem.W.Frag} {H : Hp} {v : V} {l : List ((Int × Int) × PyData)} (h : Is K H v (.dict (kvE l))) : ∃ a kvs, v = .ref a ∧ Rd H a (.dT kvs) ∧ IsM kT K H kvs l := by
  generalize e : PyData.dict (kvE l) = q at h
  cases h with
  | dct h t =>
    injection e with e
    subst e
    exact ⟨_, _, rfl, h, t.m⟩
  | key h =>
    injection e with e
    exact (kvE_no e).elim
  | rng h =>
    injection e with e
    exact (kvE_no2 e).elim
  | _ => cases e
theorem i_key {K : PySem.W.Frag} {H : Hp} {v : V} {k : Int × Int} (h : Is K H v (stD k)) : ∃ a, v = .ref a ∧ H a = some (.tup [.int k.1, .int k.2]) := by
  generalize e : stD k = q at h
  cases h with
  | dct h t =>
    injection e with e
    subst e
    nomatch t
  | key h =>
    injection e with e
    injection e with e _
    injection e with e1 e2
    injection e1 with e1
    injection e2 with e2
    subst e1 e2
    exact ⟨_, rfl, h⟩
  | rng h =>
    injection e with e
    injection e with e _
    injection e with e1 _
    cases e1
  | _ => cases e

theorem ve_add {i j : Int} (ha : VE X S a (.int i)) (hb : VE X S b (.int j)) : VE X S (.BinOp a .Add b pos) (.int (i + j)) :=
  ve_bin op_add ha hb fun v1 v2 σ H Q _ h1 h2 q => ⟨i, j, i_int h1, i_int h2, Want.here q (.int _)⟩
theorem ve_sub {i j : Int} (ha : VE X S a (.int i)) (hb : VE X S b (.int j)) : VE X S (.BinOp a .Sub b pos) (.int (i - j)) :=
  ve_bin op_sub ha hb fun v1 v2 σ H Q _ h1 h2 q => ⟨i, j, i_int h1, i_int h2, Want.here q (.int _)⟩
theorem ve_mul {i j : Int} (ha : VE X S a (.int i)) (hb : VE X S b (.int j)) (hc : CMulW i j) : VE X S (.BinOp a .Mult b pos) (.int (i * j)) :=
  ve_bin op_mulW ha hb fun v1 v2 σ H Q _ h1 h2 q => ⟨i, j, i_int h1, i_int h2, hc, Want.here q (.int _)⟩
theorem ve_mulS {i j : Int} (ha : VE X S a (.int i)) (hb : VE X S b (.int j)) (hc : CMul i j) : VE X S (.BinOp a .Mult b pos) (.int (i * j)) :=
  ve_bin op_mul ha hb fun v1 v2 σ H Q _ h1 h2 q => ⟨i, j, i_int h1, i_int h2, hc, Want.here q (.int _)⟩
theorem ve_div {i j : Int} (ha : VE X S a (.int i)) (hb : VE X S b (.int j)) (hc : CDivW i j) : VE X S (.BinOp a .FloorDiv b pos) (.int (i / j)) :=
  ve_bin op_fdivW ha hb fun v1 v2 σ H Q _ h1 h2 q => ⟨i, j, i_int h1, i_int h2, hc, Want.here q (.int _)⟩
theorem ve_divS {i j : Int} (ha : VE X S a (.int i)) (hb : VE X S b (.int j)) (hc : 0 < j ∧ j < 1073741824) : VE X S (.BinOp a .FloorDiv b pos) (.int (i / j)) :=
  ve_bin op_fdiv ha hb fun v1 v2 σ H Q _ h1 h2 q => ⟨i, j, i_int h1, i_int h2, hc, Want.here q (.int _)⟩
theorem ve_mod {i j : Int} (ha : VE X S a (.int i)) (hb : VE X S b (.int j)) (hc : 0 < j) : VE X S (.BinOp a .Mod b pos) (.int (i % j)) :=
  ve_bin op_mod ha hb fun v1 v2 σ H Q _ h1 h2 q => ⟨i, j, i_int h1, i_int h2, hc, Want.here q (.int _)⟩
theorem ve_pow {i j : Int} (ha : VE X S a (.int i)) (hb : VE X S b (.int j)) (hc : CPow i j) : VE X S (.BinOp a .Pow b pos) (.int (i ^ j.toNat)) :=
  ve_bin op_pow ha hb fun v1 v2 σ H Q _ h1 h2 q => ⟨i, j, i_int h1, i_int h2, hc, Want.here q (.int _)⟩
theorem ve_neg {i : Int} (ha : VE X S a (.int i)) : VE X S (.UnaryOp .USub a pos) (.int (-i)) :=
  ve_una un_neg ha fun v1 σ H Q _ h1 q => ⟨i, i_int h1, Want.here q (.int _)⟩
/-! comparisons of ints -/
theorem ve_lt {i j : Int} (ha : VE X S a (.int i)) (hb : VE X S b (.int j)) : VE X S (.Compare a [.Lt] [b] pos) (.bool (decide (i < j))) :=
  ve_cmpG op_lt ha hb (nomark _) fun v1 v2 σ H Q _ h1 h2 q => ⟨i, j, i_int h1, i_int h2, Want.here q (.bl _)⟩
theorem ve_le {i j : Int} (ha : VE X S a (.int i)) (hb : VE X S b (.int j)) : VE X S (.Compare a [.LtE] [b] pos) (.bool (decide (i ≤ j))) :=
  ve_cmpG op_le ha hb (nomark _) fun v1 v2 σ H Q _ h1 h2 q => ⟨i, j, i_int h1, i_int h2, Want.here q (.bl _)⟩
theorem ve_gt {i j : Int} (ha : VE X S a (.int i)) (hb : VE X S b (.int j)) : VE X S (.Compare a [.Gt] [b] pos) (.bool (decide (j < i))) :=
  ve_cmpG op_gt ha hb (nomark _) fun v1 v2 σ H Q _ h1 h2 q => ⟨i, j, i_int h1, i_int h2, Want.here q (.bl _)⟩
theorem ve_ge {i j : Int} (ha : VE X S a (.int i)) (hb : VE X S b (.int j)) : VE X S (.Compare a [.GtE] [b] pos) (.bool (decide (j ≤ i))) :=
  ve_cmpG op_ge ha hb (nomark _) fun v1 v2 σ H Q _ h1 h2 q => ⟨i, j, i_int h1, i_int h2, Want.here q (.bl _)⟩
theorem vt_lt {i j : Int} (ha : VE X S a (.int i)) (hb : VE X S b (.int j)) : VT X S (.Compare a [.Lt] [b] pos) (decide (i < j)) :=
  vt_cmpG op_lt ha hb (nomark _) fun v1 v2 σ H Q _ h1 h2 q => ⟨i, j, i_int h1, i_int h2, Want.here q (.bl _)⟩
theorem vt_le {i j : Int} (ha : VE X S a (.int i)) (hb : VE X S b (.int j)) : VT X S (.Compare a [.LtE] [b] pos) (decide (i ≤ j)) :=
  vt_cmpG op_le ha hb (nomark _) fun v1 v2 σ H Q _ h1 h2 q => ⟨i, j, i_int h1, i_int h2, Want.here q (.bl _)⟩
theorem vt_gt {i j : Int} (ha : VE X S a (.int i)) (hb : VE X S b (.int j)) : VT X S (.Compare a [.Gt] [b] pos) (decide (j < i)) :=
  vt_cmpG op_gt ha hb (nomark _) fun v1 v2 σ H Q _ h1 h2 q => ⟨i, j, i_int h1, i_int h2, Want.here q (.bl _)⟩
theorem vt_ge {i j : Int} (ha : VE X S a (.int i)) (hb : VE X S b (.int j)) : VT X S (.Compare a [.GtE] [b] pos) (decide (j ≤ i)) :=
  vt_cmpG op_ge ha hb (nomark _) fun v1 v2 σ H Q _ h1 h2 q => ⟨i, j, i_int h1, i_int h2, Want.here q (.bl _)⟩
theorem vI_dec {i j : Int} : decide (V.int i = V.int j) = decide (i = j) := by
  by_cases h : i = j
  · subst h; simp
  · rw [decide_eq_false h, decide_eq_false fun q => h (V.int.inj q)]
theorem vS_dec {i j : Str} : decide (V.str i = V.str j) = decide (i = j) := by
  by_cases h : i = j
  · subst h; simp
  · rw [decide_eq_false h, decide_eq_false fun q => h (V.str.inj q)]
theorem vt_eqI {i j : Int} (ha : VE X S a (.int i)) (hb : VE X S b (.int j)) : VT X S (.Compare a [.Eq] [b] pos) (decide (i = j)) :=
  vt_cmpG op_eq ha hb (nomark _) fun v1 v2 σ H Q _ h1 h2 q => by
    rw [i_int h1, i_int h2]
    exact ⟨rfl, by rw [vI_dec]; exact Want.here q (.bl _)⟩
theorem ve_eqI {i j : Int} (ha : VE X S a (.int i)) (hb : VE X S b (.int j)) : VE X S (.Compare a [.Eq] [b] pos) (.bool (decide (i = j))) :=
  ve_cmpG op_eq ha hb (nomark _) fun v1 v2 σ H Q _ h1 h2 q => by
    rw [i_int h1, i_int h2]
    exact ⟨rfl, by rw [vI_dec]; exact Want.here q (.bl _)⟩
theorem vt_neI {i j : Int} (ha : VE X S a (.int i)) (hb : VE X S b (.int j)) : VT X S (.Compare a [.NotEq] [b] pos) (!decide (i = j)) :=
  vt_cmpG op_ne ha hb (nomark _) fun v1 v2 σ H Q _ h1 h2 q => by
    rw [i_int h1, i_int h2]
    exact ⟨rfl, by rw [vI_dec]; exact Want.here q (.bl _)⟩
theorem vt_eqS {i j : Str} (ha : VE X S a (.str i)) (hb : VE X S b (.str j)) : VT X S (.Compare a [.Eq] [b] pos) (decide (i = j)) :=
  vt_cmpG op_eq ha hb (nomark _) fun v1 v2 σ H Q _ h1 h2 q => by
    rw [i_str h1, i_str h2]
    exact ⟨rfl, by rw [vS_dec]; exact Want.here q (.bl _)⟩
theorem ve_eqS {i j : Str} (ha : VE X S a (.str i)) (hb : VE X S b (.str j)) : VE X S (.Compare a [.Eq] [b] pos) (.bool (decide (i = j))) :=
  ve_cmpG op_eq ha hb (nomark _) fun v1 v2 σ H Q _ h1 h2 q => by
    rw [i_str h1, i_str h2]
    exact ⟨rfl, by rw [vS_dec]; exact Want.here q (.bl _)⟩
theorem vt_neS {i j : Str} (ha : VE X S a (.str i)) (hb : VE X S b (.str j)) : VT X S (.Compare a [.NotEq] [b] pos) (!decide (i = j)) :=
  vt_cmpG op_ne ha hb (nomark _) fun v1 v2 σ H Q _ h1 h2 q => by
    rw [i_str h1, i_str h2]
    exact ⟨rfl, by rw [vS_dec]; exact Want.here q (.bl _)⟩
/-! is None -/
def isNon : PyData → Bool
  | .none => true
  | _ => false
theorem isNon_of {K : PySem.W.Frag} {H : Hp} {v : V} {d : PyData} (h : Is K H v d) : decide (v = .non) = isNon d := by
  cases h <;> rfl
theorem vt_isN {k : Nat} {p : Pos} (ha : VE X S a d1) : VT X S (.Compare a [.Is] [.Constant .none k p] pos) (isNon d1) :=
  vt_cmpG op_isN ha (ve_non (S := S)) (nomark _) fun v1 v2 σ H Q _ h1 h2 q => ⟨i_non h2, by rw [isNon_of h1]; exact Want.here q (.bl _)⟩
theorem vt_notN {k : Nat} {p : Pos} (ha : VE X S a d1) : VT X S (.Compare a [.IsNot] [.Constant .none k p] pos) (!isNon d1) :=
  vt_cmpG op_notN ha (ve_non (S := S)) (nomark _) fun v1 v2 σ H Q _ h1 h2 q => ⟨i_non h2, by rw [isNon_of h1]; exact Want.here q (.bl _)⟩
/-! data -/
mutual
theorem Is.dp {K : PySem.W.Frag} {H : Hp} : ∀ {v : V} {d : PyData}, Is K H v d → d.hasDict = false → Dp K H v d
  | _, _, .non, _ => .non
  | _, _, .bl b, _ => .bl b
  | _, _, .int i, _ => .int i
  | _, _, .str x, _ => .str x
  | _, _, .lst h t, n => .lst h (IsAll.dp t (by simpa [PyData.hasDict] using n))
  | _, _, .tup h t, n => .tup h (IsAll.dp t (by simpa [PyData.hasDict] using n))
  | _, _, .dct _ _, n => by simp [PyData.hasDict] at n
  | _, _, .key _, n => by simp [PyData.hasDict] at n
  | _, _, .rng _, n => by simp [PyData.hasDict] at n
theorem IsAll.dp {K : PySem.W.Frag} {H : Hp} : ∀ {vs : List V} {ds : List PyData}, IsAll K H vs ds → PyData.hasDictAll ds = false → DpAll K H vs ds
  | _, _, .nil, _ => .nil
  | _, _, .cons h t, n => by
    simp only [PyData.hasDictAll, Bool.or_eq_false_iff] at n
    exact .cons (Is.dp h n.1) (IsAll.dp t n.2)
end
theorem Is.up {K : PySem.W.Frag} {os : List Addr} {H : Hp} {v : V} {d : PyData} (h : Is K (hid os H) v d) : Is K H v d := h.mono hid_ext
theorem IsAll.up {K : PySem.W.Frag} {os : List Addr} {H : Hp} {v : List V} {d : List PyData} (h : IsAll K (hid os H) v d) : IsAll K H v d := h.mono hid_ext
theorem vt_eqD (hu : X.A.units + 64 < cLine) (ha : VE X S a d1) (hb : VE X S b d2) (n1 : d1.hasDict = false) (n2 : d2.hasDict = false) (s1 : SeqAt.shaped d1 = true) (s2 : SeqAt.shaped d2 = true) :
    VT X S (.Compare a [.Eq] [b] pos) (PyData.eqv d1 d2) :=
  vt_cmpG (op_eqD hu) ha hb (nomark _) fun v1 v2 σ H Q _ h1 h2 q => ⟨d1, d2, h1.up.dp n1, h2.up.dp n2, s1, s2, Want.here q (.bl _)⟩
theorem ve_eqD (hu : X.A.units + 64 < cLine) (ha : VE X S a d1) (hb : VE X S b d2) (n1 : d1.hasDict = false) (n2 : d2.hasDict = false) (s1 : SeqAt.shaped d1 = true) (s2 : SeqAt.shaped d2 = true) :
    VE X S (.Compare a [.Eq] [b] pos) (.bool (PyData.eqv d1 d2)) :=
  ve_cmpG (op_eqD hu) ha hb (nomark _) fun v1 v2 σ H Q _ h1 h2 q => ⟨d1, d2, h1.up.dp n1, h2.up.dp n2, s1, s2, Want.here q (.bl _)⟩
theorem vt_neD (hu : X.A.units + 64 < cLine) (ha : VE X S a d1) (hb : VE X S b d2) (n1 : d1.hasDict = false) (n2 : d2.hasDict = false) (s1 : SeqAt.shaped d1 = true) (s2 : SeqAt.shaped d2 = true) :
    VT X S (.Compare a [.NotEq] [b] pos) (!PyData.eqv d1 d2) :=
  vt_cmpG (op_neD hu) ha hb (nomark _) fun v1 v2 σ H Q _ h1 h2 q => ⟨d1, d2, h1.up.dp n1, h2.up.dp n2, s1, s2, Want.here q (.bl _)⟩
/-! truth -/
theorem vt_val {k : Bool} (h : VE X S e (.bool k)) (he : ∀ whole, isTrue e X.env whole = (do let v ← whole; standAt e.pos; holding [v] (truthy v)) := by intro _; rfl) : VT X S e k :=
  PTimp (pt_val h he) fun σ H Q ⟨s, q⟩ => ⟨s, fun v H1 s1 i => by
    cases i
    exact ⟨k, rfl, q H1 s1⟩⟩
theorem vt_not {k : Bool} (h : VT X S e k) : VT X S (.UnaryOp .Not e pos) (!k) := PTimp (pt_not h) fun σ H Q ⟨s, q⟩ => ⟨s, fun H1 s1 => q H1 s1⟩
abbrev VW (X : Cx) (S : SS) (e : Expr) (b : Bool) : Prop := PW X e (tDT X.K S b)
theorem vw_and1 {k : Bool} (h : VT X S e k) : VW X S (.BoolOp .And [e] pos) k := pw_and1 h
theorem vw_or1 {k : Bool} (h : VT X S e k) : VW X S (.BoolOp .Or [e] pos) k := pw_or1 h
theorem vw_and {k k' : Bool} {rest : List Expr} (h : VT X S a k) (h2 : k = true → VW X S (.BoolOp .And (b :: rest) pos) k') : VW X S (.BoolOp .And (a :: b :: rest) pos) (k && k') := by
  cases k with
  | true =>
    refine PWimp (pw_and h (h2 rfl)) fun σ H Q ⟨s, q⟩ => ⟨s, fun H1 s1 => ?_⟩
    exact ⟨s.step s1, fun H2 s2 => q H2 (s1.trans s2)⟩
  | false =>
    refine PWimp (pw_and (tB' := fun _ _ _ => False) h ?_) fun σ H Q ⟨s, q⟩ => ⟨s, fun H1 s1 => ?_⟩
    · exact ⟨fun wh pins s σ H Q I q => q.elim⟩
    · exact q H1 s1
theorem vw_or {k k' : Bool} {rest : List Expr} (h : VT X S a k) (h2 : k = false → VW X S (.BoolOp .Or (b :: rest) pos) k') : VW X S (.BoolOp .Or (a :: b :: rest) pos) (k || k') := by
  cases k with
  | false =>
    refine PWimp (pw_or h (h2 rfl)) fun σ H Q ⟨s, q⟩ => ⟨s, fun H1 s1 => ?_⟩
    exact ⟨s.step s1, fun H2 s2 => q H2 (s1.trans s2)⟩
  | true =>
    refine PWimp (pw_or (tB' := fun _ _ _ => False) h ?_) fun σ H Q ⟨s, q⟩ => ⟨s, fun H1 s1 => ?_⟩
    · exact ⟨fun wh pins s σ H Q I q => q.elim⟩
    · exact q H1 s1
theorem vw_pt {k : Bool} (h : VW X S e k) : VT X S e k := h.pt
theorem ve_one {op} (h : VE X S e d) : VE X S (.BoolOp op [e] pos) d := pe_one h
theorem pe_false {e : Expr} : PE X e (fun _ _ _ => False) := ⟨fun pins s σ H Q I q => q.elim⟩
theorem ve_and {k : Bool} {k' : Bool} {rest : List Expr} (h : VE X S a (.bool k)) (h2 : k = true → VE X S (.BoolOp .And (b :: rest) pos) (.bool k')) : VE X S (.BoolOp .And (a :: b :: rest) pos) (.bool (k && k')) := by
  cases k with
  | true =>
    refine PEimp (pe_and h (h2 rfl)) fun σ H Q ⟨s, q⟩ => ⟨s, fun v H1 s1 i => ⟨true, i_bl i, ?_⟩⟩
    exact ⟨s.step s1, fun v H2 s2 i2 => q v H2 (s1.trans s2) i2⟩
  | false =>
    refine PEimp (pe_and h pe_false) fun σ H Q ⟨s, q⟩ => ⟨s, fun v H1 s1 i => ⟨false, i_bl i, ?_⟩⟩
    exact q _ H1 s1 (.bl _)
theorem ve_or {k : Bool} {k' : Bool} {rest : List Expr} (h : VE X S a (.bool k)) (h2 : k = false → VE X S (.BoolOp .Or (b :: rest) pos) (.bool k')) : VE X S (.BoolOp .Or (a :: b :: rest) pos) (.bool (k || k')) := by
  cases k with
  | false =>
    refine PEimp (pe_or h (h2 rfl)) fun σ H Q ⟨s, q⟩ => ⟨s, fun v H1 s1 i => ⟨false, i_bl i, ?_⟩⟩
    exact ⟨s.step s1, fun v H2 s2 i2 => q v H2 (s1.trans s2) i2⟩
  | true =>
    refine PEimp (pe_or h pe_false) fun σ H Q ⟨s, q⟩ => ⟨s, fun v H1 s1 i => ⟨true, i_bl i, ?_⟩⟩
    exact q _ H1 s1 (.bl _)
theorem ve_not {k : Bool} (h : VE X S a (.bool k)) : VE X S (.UnaryOp .Not a pos) (.bool (!k)) :=
  PEimp (pe_not h) fun σ H Q ⟨s, q⟩ => ⟨s, fun v H1 s1 i => ⟨k, i_bl i, q _ H1 s1 (.bl _)⟩⟩
/-- a <= b <= c and its kin, of ints -/
theorem ve_chainI {op op' : CmpOp} {p p' : Int → Int → Bool} {i j k : Int} (ho : OpR X (compareOp op) (rI0 fun i j => .bl (p i j))) (ho' : OpR X (compareOp op') (rI0 fun i j => .bl (p' i j)))
    (ha : VE X S a (.int i)) (hb : VE X S b (.int j)) (hc : p i j = true → VE X S c (.int k)) (hm : lastMarks [op, op'] [b, c] = false := by with_unfolding_all rfl) : VE X S (.Compare a [op, op'] [b, c] pos) (.bool (p i j && p' j k)) := by
  cases e : p i j with
  | true =>
    refine PEimp (pe_chain ho ho' ha hb (hc e) hm) fun σ H Q ⟨s, q⟩ => ⟨s, fun v1 H1 s1 i1 => ⟨s.step s1, fun v2 H2 s2 i2 => ⟨i, j, i_int i1, i_int i2, true, by show V.bl (p i j) = _; rw [e], ?_⟩⟩⟩
    refine ⟨(s.step s1).step s2, fun v3 H3 s3 i3 => ⟨j, k, i_int i2, i_int i3, q _ H3 ((s1.trans s2).trans s3) ?_⟩⟩
    rw [Bool.true_and]
    exact .bl _
  | false =>
    refine PEimp (pe_chain ho ho' ha hb pe_false hm) fun σ H Q ⟨s, q⟩ => ⟨s, fun v1 H1 s1 i1 => ⟨s.step s1, fun v2 H2 s2 i2 => ⟨i, j, i_int i1, i_int i2, false, by show V.bl (p i j) = _; rw [e], ?_⟩⟩⟩
    exact q _ H2 (s1.trans s2) (.bl _)
theorem vt_chainI {op op' : CmpOp} {p p' : Int → Int → Bool} {i j k : Int} (ho : OpR X (compareOp op) (rI0 fun i j => .bl (p i j))) (ho' : OpR X (compareOp op') (rI0 fun i j => .bl (p' i j)))
    (ha : VE X S a (.int i)) (hb : VE X S b (.int j)) (hc : p i j = true → VE X S c (.int k)) (hm : lastMarks [op, op'] [b, c] = false := by with_unfolding_all rfl) : VT X S (.Compare a [op, op'] [b, c] pos) (p i j && p' j k) := by
  cases e : p i j with
  | true =>
    refine PTimp (pt_chain ho ho' ha hb (hc e) hm) fun σ H Q ⟨s, q⟩ => ⟨s, fun v1 H1 s1 i1 => ⟨s.step s1, fun v2 H2 s2 i2 => ⟨i, j, i_int i1, i_int i2, true, by show V.bl (p i j) = _; rw [e], ?_⟩⟩⟩
    refine ⟨(s.step s1).step s2, fun v3 H3 s3 i3 => ⟨j, k, i_int i2, i_int i3, _, rfl, ?_⟩⟩
    exact q H3 ((s1.trans s2).trans s3)
  | false =>
    refine PTimp (pt_chain ho ho' ha hb pe_false hm) fun σ H Q ⟨s, q⟩ => ⟨s, fun v1 H1 s1 i1 => ⟨s.step s1, fun v2 H2 s2 i2 => ⟨i, j, i_int i1, i_int i2, false, by show V.bl (p i j) = _; rw [e], ?_⟩⟩⟩
    exact ⟨false, rfl, q H2 (s1.trans s2)⟩
/-! arguments, displays, subscripts -/
theorem va_nil : VA X S [] [] := PAimp pa_nil fun σ H Q ⟨s, q⟩ => q [] H (Stp.refl H) .nil
theorem va_cons {es : List Expr} {ds : List PyData} (h : VE X S e d) (t : VA X S es ds) (hs : starEach (e :: es) X.env = (false, eval e X.env) :: starEach es X.env := by rfl) : VA X S (e :: es) (d :: ds) :=
  PAimp (pa_cons h t hs) fun σ H Q ⟨s, q⟩ => ⟨s, fun v H1 s1 i => ⟨s.step s1, fun vs H2 s2 is => q _ H2 (s1.trans s2) (.cons (i.mono s2.ext.hid) is)⟩⟩
theorem ble1000 {n : Nat} (h : Nat.ble n 1000 = true) : n ≤ sizeLine := Nat.le_trans (Nat.le_of_ble_eq_true h) (by decide)
theorem ve_tup {es : List Expr} {ds : List PyData} {x1} (h : VA X S es ds) (hl : Nat.ble ds.length 1000 = true := by rfl) : VE X S (.Tuple es x1 pos) (.tuple ds) :=
  PEimp (pe_tup h) fun σ H Q ⟨s, q⟩ => ⟨s, fun vs H1 s1 is => ⟨by rw [is.len]; exact ble1000 hl, fun p hp => q _ _ (s1.trans (Stp.new hp)) (by
    rw [hid_upd_out ((s.step s1).fresh hp)]
    exact .tup (SqT.of upd_same) (is.mono (Ext.new (by rw [hid_out ((s.step s1).fresh hp)]; exact hp))))⟩⟩
theorem ve_lst {es : List Expr} {ds : List PyData} (h : VA X S es ds) (hl : Nat.ble ds.length 1000 = true := by rfl) : VE X S (.List es pos) (.list ds) :=
  PEimp (pe_lst h) fun σ H Q ⟨s, q⟩ => ⟨s, fun vs H1 s1 is => ⟨by rw [is.len]; exact ble1000 hl, fun p hp => q _ _ (s1.trans (Stp.new hp)) (by
    rw [hid_upd_out ((s.step s1).fresh hp)]
    exact .lst (SqL.of upd_same) (is.mono (Ext.new (by rw [hid_out ((s.step s1).fresh hp)]; exact hp))))⟩⟩
/-- a pair of ints that serves as a key -/
theorem ve_tupK {i j : Int} {x1} (h : VA X S [a, b] [.int i, .int j]) : VE X S (.Tuple [a, b] x1 pos) (stD (i, j)) :=
  PEimp (pe_tup h) fun σ H Q ⟨s, q⟩ => ⟨s, fun vs H1 s1 is => ⟨by rw [is.len]; exact ble1000 rfl, fun p hp => q _ _ (s1.trans (Stp.new hp)) (by
    rw [hid_upd_out ((s.step s1).fresh hp)]
    cases is with
    | cons a1 t1 =>
      cases t1 with
      | cons a2 t2 =>
        cases t2
        rw [i_int a1, i_int a2]
        exact .key upd_same)⟩⟩
/-- a new list of data told -/
theorem Want.newL {K : PySem.W.Frag} {ds : List PyData} {σ : L2.St} {H H1 : Hp} {Q : VK} {p : Addr} {vs : List V} (q : Want K S (.list ds) H Q) (s : SA K S σ H) (s1 : Stp S.os H H1) (hp : H1 p = none) (is : IsAll K (hid S.os H1) vs ds) : Q (.ref p) (upd H1 p (.lst vs)) :=
  q _ _ (s1.trans (Stp.new hp)) (by
    rw [hid_upd_out ((s.step s1).fresh hp)]
    exact .lst (SqL.of upd_same) (is.mono (Ext.new (by rw [hid_out ((s.step s1).fresh hp)]; exact hp))))
theorem atI_is {K : PySem.W.Frag} {H : Hp} {vs : List V} {ds : List PyData} {i : Int} (h : IsAll K H vs ds) (e : atI ds i = some d) : ∃ v, atI vs i = some v ∧ Is K H v d := by
  unfold atI at e ⊢
  rw [h.len]
  cases q : ixN ds.length i with
  | none => rw [q] at e; cases e
  | some j =>
    rw [q] at e
    exact h.get e
theorem ve_ixL {ds : List PyData} {i : Int} (ha : VE X S a (.list ds)) (hb : VE X S b (.int i)) (e : atI ds i = some d) (hs : PlainIx b := by exact fun _ _ => rfl) : VE X S (.Subscript a b pos) d :=
  PEimp (pe_ix ix_list ha hb hs) fun σ H Q ⟨s, q⟩ => ⟨s, fun v1 H1 s1 i1 => ⟨s.step s1, fun v2 H2 s2 i2 => by
    obtain ⟨p, xs, rfl, h1, h2⟩ := i_lst (i1.mono s2.ext.hid)
    obtain ⟨v, h3, h4⟩ := atI_is h2 e
    exact ⟨p, xs, i, v, rfl, i_int i2, hid_ext.l h1, h3, q _ H2 (s1.trans s2) h4⟩⟩⟩
theorem ve_ixT {ds : List PyData} {i : Int} (ha : VE X S a (.tuple ds)) (hb : VE X S b (.int i)) (e : atI ds i = some d) (hs : PlainIx b := by exact fun _ _ => rfl) : VE X S (.Subscript a b pos) d :=
  PEimp (pe_ix ix_tup ha hb hs) fun σ H Q ⟨s, q⟩ => ⟨s, fun v1 H1 s1 i1 => ⟨s.step s1, fun v2 H2 s2 i2 => by
    obtain ⟨p, xs, rfl, h1, h2⟩ := i_tup (i1.mono s2.ext.hid)
    obtain ⟨v, h3, h4⟩ := atI_is h2 e
    exact ⟨p, xs, i, v, rfl, i_int i2, hid_ext.t h1, h3, q _ H2 (s1.trans s2) h4⟩⟩⟩
theorem ve_ixK0 {k : Int × Int} {jj : Nat} {pp : Pos} (ha : VE X S a (stD k)) : VE X S (.Subscript a (.Constant (.int 0) jj pp) pos) (.int k.1) :=
  PEimp (pe_ix ix_tup ha (ve_int (S := S)) (fun _ _ => rfl)) fun σ H Q ⟨s, q⟩ => ⟨s, fun v1 H1 s1 i1 => ⟨s.step s1, fun v2 H2 s2 i2 => by
    obtain ⟨p, rfl, h1⟩ := i_key (i1.mono s2.ext.hid)
    exact ⟨p, _, 0, .int k.1, rfl, i_int i2, SqT.of (hid_some h1).2, rfl, q _ H2 (s1.trans s2) (.int _)⟩⟩⟩
theorem ve_ixK1 {k : Int × Int} {jj : Nat} {pp : Pos} (ha : VE X S a (stD k)) : VE X S (.Subscript a (.Constant (.int 1) jj pp) pos) (.int k.2) :=
  PEimp (pe_ix ix_tup ha (ve_int (S := S)) (fun _ _ => rfl)) fun σ H Q ⟨s, q⟩ => ⟨s, fun v1 H1 s1 i1 => ⟨s.step s1, fun v2 H2 s2 i2 => by
    obtain ⟨p, rfl, h1⟩ := i_key (i1.mono s2.ext.hid)
    exact ⟨p, _, 1, .int k.2, rfl, i_int i2, SqT.of (hid_some h1).2, rfl, q _ H2 (s1.trans s2) (.int _)⟩⟩⟩
/-! built-ins by name -/
section
variable {x : Str} {p : Pos} {es : List Expr} {ds : List PyData} {bid T : String} {r : List V → Hp → VK → Prop}
theorem ve_callB (hc : CallR X (.builtin bid) r) (hm : X.mg x = none) (hv : bootBuiltins x = some (.builtin bid)) (ha : VA X S (e :: es) ds)
    (hr : ∀ vs σ H Q, SA X.K S σ H → IsAll X.K (hid S.os H) vs ds → Want X.K S d H Q → r vs H Q) (hg : Gl X x := by rfl) (hn : x ≠ "__name__" := by decide) (hdb : (x == ("__debug__" : Str)) = false := by decide)
    (he : starEach (e :: es) X.env = (false, eval e X.env) :: starEach es X.env := by rfl) (hpl : (backTo pos (starEach es X.env)).any (·.1) = false := by rfl) : VE X S (.Call (.Name x p) (e :: es) [] pos) d :=
  PEimp (pe_callB hc hg hm hv ha hn hdb he hpl) fun σ H Q ⟨s, q⟩ => ⟨s, fun vs H1 s1 is => hr vs σ H1 Q (s.step s1) is (Want.later q s1)⟩
theorem ve_callTy (hc : CallR X (.type T) r) (hm : X.mg x = none) (hv : bootBuiltins x = some (.type T)) (ha : VA X S (e :: es) ds)
    (hr : ∀ vs σ H Q, SA X.K S σ H → IsAll X.K (hid S.os H) vs ds → Want X.K S d H Q → r vs H Q) (hg : Gl X x := by rfl) (hn : x ≠ "__name__" := by decide) (hdb : (x == ("__debug__" : Str)) = false := by decide)
    (he : starEach (e :: es) X.env = (false, eval e X.env) :: starEach es X.env := by rfl) (hpl : (backTo pos (starEach es X.env)).any (·.1) = false := by rfl) : VE X S (.Call (.Name x p) (e :: es) [] pos) d :=
  PEimp (pe_callTy hc hg hm hv ha hn hdb he hpl) fun σ H Q ⟨s, q⟩ => ⟨s, fun vs H1 s1 is => hr vs σ H1 Q (s.step s1) is (Want.later q s1)⟩
theorem all1 {K : PySem.W.Frag} {H : Hp} {vs : List V} (h : IsAll K H vs [d]) : ∃ v, vs = [v] ∧ Is K H v d := by
  cases h with
  | cons h t => cases t; exact ⟨_, rfl, h⟩
theorem all2 {K : PySem.W.Frag} {H : Hp} {vs : List V} (h : IsAll K H vs [d1, d2]) : ∃ v w, vs = [v, w] ∧ Is K H v d1 ∧ Is K H w d2 := by
  cases h with
  | cons h t =>
    obtain ⟨w, rfl, h2⟩ := all1 t
    exact ⟨_, w, rfl, h, h2⟩
theorem all3 {K : PySem.W.Frag} {H : Hp} {vs : List V} (h : IsAll K H vs [d1, d2, d3]) : ∃ v w z, vs = [v, w, z] ∧ Is K H v d1 ∧ Is K H w d2 ∧ Is K H z d3 := by
  cases h with
  | cons h t =>
    obtain ⟨w, z, rfl, h2, h3⟩ := all2 t
    exact ⟨_, w, z, rfl, h, h2, h3⟩
theorem ve_len {ds : List PyData} (hm : X.mg "len" = none) (ha : VE X S e (.list ds)) (hg : Gl X "len" := by rfl) (he : starEach [e] X.env = [(false, eval e X.env)] := by rfl) :
    VE X S (.Call (.Name "len" p) [e] [] pos) (.int ds.length) :=
  ve_callB call_len_seq hm PySem.boot_len (va_cons ha va_nil he) (fun vs σ H Q s is q => by
    obtain ⟨v, rfl, h⟩ := all1 is
    obtain ⟨a, xs, rfl, h1, h2⟩ := i_lst h
    exact ⟨a, xs, rfl, .inl (hid_ext.l h1), by rw [h2.len]; exact Want.here q (.int _)⟩) hg (by decide) (by decide) he rfl
theorem ve_lenT {ds : List PyData} (hm : X.mg "len" = none) (ha : VE X S e (.tuple ds)) (hg : Gl X "len" := by rfl) (he : starEach [e] X.env = [(false, eval e X.env)] := by rfl) :
    VE X S (.Call (.Name "len" p) [e] [] pos) (.int ds.length) :=
  ve_callB call_len_seq hm PySem.boot_len (va_cons ha va_nil he) (fun vs σ H Q s is q => by
    obtain ⟨v, rfl, h⟩ := all1 is
    obtain ⟨a, xs, rfl, h1, h2⟩ := i_tup h
    exact ⟨a, xs, rfl, .inr (hid_ext.t h1), by rw [h2.len]; exact Want.here q (.int _)⟩) hg (by decide) (by decide) he rfl
theorem ve_abs {i : Int} (hm : X.mg "abs" = none) (ha : VE X S e (.int i)) (hg : Gl X "abs" := by rfl) (he : starEach [e] X.env = [(false, eval e X.env)] := by rfl) :
    VE X S (.Call (.Name "abs" p) [e] [] pos) (.int (if i < 0 then -i else i)) :=
  ve_callB call_abs hm (by decide +kernel) (va_cons ha va_nil he) (fun vs σ H Q s is q => by
    obtain ⟨v, rfl, h⟩ := all1 is
    rw [i_int h]
    exact ⟨i, rfl, Want.here q (.int _)⟩) hg (by decide) (by decide) he rfl
theorem ve_intI {i : Int} (hm : X.mg "int" = none) (ha : VE X S e (.int i)) (hg : Gl X "int" := by rfl) (he : starEach [e] X.env = [(false, eval e X.env)] := by rfl) :
    VE X S (.Call (.Name "int" p) [e] [] pos) (.int i) :=
  ve_callTy call_int1 hm (by decide +kernel) (va_cons ha va_nil he) (fun vs σ H Q s is q => by
    obtain ⟨v, rfl, h⟩ := all1 is
    rw [i_int h]
    exact .inl ⟨i, rfl, Want.here q (.int _)⟩) hg (by decide) (by decide) he rfl
theorem ve_min2 {i j : Int} (hc : X.calm = true) (hm : X.mg "min" = none) (ha : VE X S a (.int i)) (hb : VE X S b (.int j)) (hg : Gl X "min" := by rfl) (he : starEach [a, b] X.env = (false, eval a X.env) :: starEach [b] X.env := by rfl) (he2 : starEach [b] X.env = [(false, eval b X.env)] := by rfl)
    (hpl : (backTo pos (starEach [b] X.env)).any (·.1) = false := by rfl) : VE X S (.Call (.Name "min" p) [a, b] [] pos) (.int (if j < i then j else i)) :=
  ve_callB (call_min2 hc) hm (by decide +kernel) (va_cons ha (va_cons hb va_nil he2) he) (fun vs σ H Q s is q => by
    obtain ⟨v, w, rfl, h1, h2⟩ := all2 is
    rw [i_int h1, i_int h2]
    exact ⟨i, j, rfl, Want.here q (.int _)⟩) hg (by decide) (by decide) he hpl
theorem ve_max2 {i j : Int} (hc : X.calm = true) (hm : X.mg "max" = none) (ha : VE X S a (.int i)) (hb : VE X S b (.int j)) (hg : Gl X "max" := by rfl) (he : starEach [a, b] X.env = (false, eval a X.env) :: starEach [b] X.env := by rfl) (he2 : starEach [b] X.env = [(false, eval b X.env)] := by rfl)
    (hpl : (backTo pos (starEach [b] X.env)).any (·.1) = false := by rfl) : VE X S (.Call (.Name "max" p) [a, b] [] pos) (.int (if j > i then j else i)) :=
  ve_callB (call_max2 hc) hm (by decide +kernel) (va_cons ha (va_cons hb va_nil he2) he) (fun vs σ H Q s is q => by
    obtain ⟨v, w, rfl, h1, h2⟩ := all2 is
    rw [i_int h1, i_int h2]
    exact ⟨i, j, rfl, Want.here q (.int _)⟩) hg (by decide) (by decide) he hpl
theorem ve_sum {ns : List Int} (hc : X.calm = true) (hm : X.mg "sum" = none) (ha : VE X S e (.list (ns.map PyData.int))) (hg : Gl X "sum" := by rfl) (he : starEach [e] X.env = [(false, eval e X.env)] := by rfl) :
    VE X S (.Call (.Name "sum" p) [e] [] pos) (.int ns.sum) :=
  ve_callB (cr_sum hc) hm (by decide +kernel) (va_cons ha va_nil he) (fun vs σ H Q s is q => by
    obtain ⟨v, rfl, h⟩ := all1 is
    obtain ⟨a, xs, rfl, h1, h2⟩ := i_lst h
    have e := IsAll.ofInts h2
    subst e
    exact ⟨a, ns, rfl, hid_ext.l h1, Want.here q (.int _)⟩) hg (by decide) (by decide) he rfl
theorem ve_any {ns : List Bool} (hc : X.calm = true) (hm : X.mg "any" = none) (ha : VE X S e (.list (ns.map PyData.bool))) (hg : Gl X "any" := by rfl) (he : starEach [e] X.env = [(false, eval e X.env)] := by rfl) :
    VE X S (.Call (.Name "any" p) [e] [] pos) (.bool (ns.any id)) :=
  ve_callB (cr_any hc) hm (by decide +kernel) (va_cons ha va_nil he) (fun vs σ H Q s is q => by
    obtain ⟨v, rfl, h⟩ := all1 is
    obtain ⟨a, xs, rfl, h1, h2⟩ := i_lst h
    have e := IsAll.ofBools h2
    subst e
    exact ⟨a, ns, rfl, hid_ext.l h1, Want.here q (.bl _)⟩) hg (by decide) (by decide) he rfl
theorem ve_all {ns : List Bool} (hc : X.calm = true) (hm : X.mg "all" = none) (ha : VE X S e (.list (ns.map PyData.bool))) (hg : Gl X "all" := by rfl) (he : starEach [e] X.env = [(false, eval e X.env)] := by rfl) :
    VE X S (.Call (.Name "all" p) [e] [] pos) (.bool (ns.all id)) :=
  ve_callB (cr_all hc) hm (by decide +kernel) (va_cons ha va_nil he) (fun vs σ H Q s is q => by
    obtain ⟨v, rfl, h⟩ := all1 is
    obtain ⟨a, xs, rfl, h1, h2⟩ := i_lst h
    have e := IsAll.ofBools h2
    subst e
    exact ⟨a, ns, rfl, hid_ext.l h1, Want.here q (.bl _)⟩) hg (by decide) (by decide) he rfl
/-- gcd, imported by its name -/
theorem ve_gcd {i j : Int} (hm : X.mg x = some (.builtin "math.gcd")) (ha : VE X S a (.int i)) (hb : VE X S b (.int j)) (hg : Gl X x := by rfl) (hdb : (x == ("__debug__" : Str)) = false := by decide)
    (he : starEach [a, b] X.env = (false, eval a X.env) :: starEach [b] X.env := by rfl) (he2 : starEach [b] X.env = [(false, eval b X.env)] := by rfl) (hpl : (backTo pos (starEach [b] X.env)).any (·.1) = false := by rfl) :
    VE X S (.Call (.Name x p) [a, b] [] pos) (.int ((Nat.gcd i.natAbs j.natAbs : Nat) : Int)) :=
  PEimp (pe_callBfun cr_gcd hg hm (va_cons ha (va_cons hb va_nil he2) he) hdb he hpl) fun σ H Q ⟨s, q⟩ => ⟨s, fun vs H1 s1 is => by
    obtain ⟨v, w, rfl, h1, h2⟩ := all2 is
    rw [i_int h1, i_int h2]
    exact ⟨i, j, rfl, q _ H1 s1 (.int _)⟩⟩
/-- list(range(n)) -/
theorem ve_listRange {n : Int} {p2 pos2 : Pos} (hc : X.calm = true) (hm : X.mg "list" = none) (hm2 : X.mg "range" = none) (ha : VE X S e (.int n)) (hn : 0 ≤ n ∧ n ≤ 1000) (hg : Gl X "list" := by rfl) (hg2 : Gl X "range" := by rfl)
    (h1 : PRg X (.Call (.Name "range" p2) [e] [] pos2) (tRg1 (tD X.K S (.int n))) := by exact prg_1 (by rfl) (by assumption) (by assumption))
    (na : starEach [.Call (.Name "range" p2) [e] [] pos2] X.env = (false, eval (.Call (.Name "range" p2) [e] [] pos2) X.env) :: starEach [] X.env := by rfl) :
    VE X S (.Call (.Name "list" p) [.Call (.Name "range" p2) [e] [] pos2] [] pos) (.list ((List.range n.toNat).map fun i => PyData.int (i : Nat))) :=
  PEimp (pe_listRg hc hg hm h1 na) fun σ H Q ⟨s, q⟩ => ⟨s, fun v H1 s1 i => ⟨n, i_int i, ⟨by decide, by decide, by omega, by omega, by omega⟩, fun l hl => by
    refine Want.newL (S := S) q s s1 hl ?_
    unfold rgV
    rw [Int.sub_zero]
    generalize List.range n.toNat = ls
    induction ls with
    | nil => exact .nil
    | cons k ls ih =>
      refine .cons ?_ ih
      show Is _ _ (.int (0 + (k : Int))) _
      rw [Int.zero_add]
      exact .int _⟩⟩
end
/-! slices -/
theorem ve_rev {k : Nat} {p1 p2 p3 : Pos} {ds : List PyData} (h : VE X S e (.list ds)) : VE X S (.Subscript e (.Slice none none (some (.UnaryOp .USub (.Constant (.int 1) k p1) p2)) p3) pos) (.list ds.reverse) :=
  PEimp (pe_revL h) fun σ H Q ⟨s, q⟩ => ⟨s, fun v H1 s1 i => by
    obtain ⟨a, xs, rfl, h1, h2⟩ := i_lst i
    exact ⟨a, xs, rfl, hid_ext.l h1, fun p hp => Want.newL (S := S) q s s1 hp h2.rev⟩⟩
/-- xs[1:] -/
theorem ve_tail {k : Nat} {p1 p2 : Pos} {ds : List PyData} (h : VE X S e (.list ds)) : VE X S (.Subscript e (.Slice (some (.Constant (.int 1) k p1)) none none p2) pos) (.list (ds.drop 1)) :=
  PEimp (pe_slice sl_list h (po_some pe_int) po_none) fun σ H Q ⟨s, q⟩ => ⟨s, fun v H1 s1 i => by
    obtain ⟨a, xs, rfl, h1, h2⟩ := i_lst i
    refine ⟨1, rfl, ⟨a, xs, rfl, hid_ext.l h1, fun p hp => Want.newL (S := S) q s s1 hp ?_⟩⟩
    have e1 : cutV xs (some 1) none = xs.drop 1 := by
      unfold cutV
      cases xs with
      | nil => rfl
      | cons y ys =>
        have h0 : HT.sIx (y :: ys).length 0 (some 1) = 1 := by
          simp [HT.sIx]
          try omega
        have h9 : HT.sIx (y :: ys).length (y :: ys).length none = (y :: ys).length := rfl
        rw [h0, h9]
        exact List.take_of_length_le (by simp)
    rw [e1]
    exact h2.dropn 1⟩
end
end DL

namespace DL
open PySem PySem.Spec PyProof.Rows L2

/-! ### blocks -/
def RUN (X : Cx) (sts : List Stmt) (D : Ends) (σ : L2.St) (H : Hp) : Prop := ∀ pins s, Inv X pins σ H s → wpAny (model X.prog X.w) X.A (execs sts X.env) (SP X pins D) X.xe s
def GB (X : Cx) (S : SS) (sts : List Stmt) (D : Ends) : Prop := ∀ σ H, SA X.K S σ H → RUN X sts D σ H
theorem pss_run {X : Cx} {sts : List Stmt} : PSs X sts (fun D σ H => RUN X sts D σ H) := ⟨fun pins s σ H D I h => h pins s I⟩
theorem run_of {X : Cx} {sts : List Stmt} {t : TS} {D : Ends} {σ : L2.St} {H : Hp} (h : PSs X sts t) (q : t D σ H) : RUN X sts D σ H := fun pins s I => h.run pins s σ H D I q
theorem run_cons {X : Cx} {st : Stmt} {rest : List Stmt} {t : TS} {D : Ends} {σ : L2.St} {H : Hp} (h : PS X st t) (q : t { D with nx := RUN X rest D } σ H) : RUN X (st :: rest) D σ H :=
  run_of (pss_cons h pss_run) q
theorem SP.mono {X : Cx} {pins : List (Addr × Obj)} {D D' : Ends} {f : Flow} {s : Shared} (h : SP X pins D f s) (n : ∀ σ H, D.nx σ H → D'.nx σ H) (r : ∀ v H, D.rt v H → D'.rt v H) (b : ∀ σ H, D.bk σ H → D'.bk σ H) (c : ∀ σ H, D.ct σ H → D'.ct σ H) :
    SP X pins D' f s := by
  cases f with
  | next => obtain ⟨σ, H, I, q⟩ := h; exact ⟨σ, H, I, n _ _ q⟩
  | brk => obtain ⟨σ, H, I, q⟩ := h; exact ⟨σ, H, I, b _ _ q⟩
  | cont => obtain ⟨σ, H, I, q⟩ := h; exact ⟨σ, H, I, c _ _ q⟩
  | ret u => obtain ⟨v, σ, H, I, q, z⟩ := h; exact ⟨v, σ, H, I, q, r _ _ z⟩
theorem RUN.mono {X : Cx} {sts : List Stmt} {D D' : Ends} {σ : L2.St} {H : Hp} (h : RUN X sts D σ H) (n : ∀ σ H, D.nx σ H → D'.nx σ H) (r : ∀ v H, D.rt v H → D'.rt v H) (b : ∀ σ H, D.bk σ H → D'.bk σ H) (c : ∀ σ H, D.ct σ H → D'.ct σ H) : RUN X sts D' σ H :=
  fun pins s I => thn (h pins s I) fun f s' q => SP.mono q n r b c

/-! ### defs -/
/-- a def by data: the arguments' data and the answer's stand in R -/
def spD (K : PySem.W.Frag) (R : List PyData → PyData → Prop) : Sp := fun vs H Q _ => ∃ (os : List Addr) (ds : List PyData) (d : PyData), (∀ a ∈ os, ∃ o, H a = some o ∧ NT o) ∧ IsAll K (hid os H) vs ds ∧ R ds d ∧
  ∀ v H', Stp os H H' → Is K (hid os H') v d → Q v H'
/-- a def of the module keeps R at level k -/
structure DF (P : Program) (w : World) (K : PySem.W.Frag) (mg : Str → Option Value) (base : Heap) (x : Str) (k : Nat) (R : List PyData → PyData → Prop) : Prop where
  ex : ∃ f fd ps, mg x = some (.ref f) ∧ PySem.W.keepIn K (.ref f) = true ∧ Binds K fd ps [] ∧ FnOk P w K mg base CX0 k f fd ps (spD K R)
theorem DF.imp {P : Program} {w : World} {K : PySem.W.Frag} {mg : Str → Option Value} {base : Heap} {x : Str} {k : Nat} {R R' : List PyData → PyData → Prop} (h : DF P w K mg base x k R) (i : ∀ ds d, R' ds d → R ds d) : DF P w K mg base x k R' := by
  obtain ⟨f, fd, ps, h1, h2, h3, h4⟩ := h.ex
  exact ⟨f, fd, ps, h1, h2, h3, h4.imp fun vs H Q E ⟨os, ds, d, a, b, c, q⟩ => ⟨os, ds, d, a, b, i _ _ c, q⟩⟩
theorem DF.up {P : Program} {w : World} {K : PySem.W.Frag} {mg : Str → Option Value} {base : Heap} {x : Str} {j k : Nat} {R : List PyData → PyData → Prop} (h : DF P w K mg base x j R) (l : j ≤ k) : DF P w K mg base x k R := by
  obtain ⟨f, fd, ps, h1, h2, h3, h4⟩ := h.ex
  exact ⟨f, fd, ps, h1, h2, h3, h4.mono l⟩
/-- what a body is to reach -/
abbrev DR (K : PySem.W.Frag) (H0 : Hp) (os0 : List Addr) (d : PyData) : Ends := { nx := fun _ H' => d = .none ∧ Stp os0 H0 H', rt := fun v H' => Stp os0 H0 H' ∧ Is K (hid os0 H') v d }
theorem env_start {K : PySem.W.Frag} {H : Hp} : ∀ {vs : List V} {ds : List PyData} (n : Nat), IsAll K H vs ds → EnvOk K H (vs.map some ++ List.replicate n none) (ds.map SD.dat ++ List.replicate n SD.any)
  | _, _, 0, .nil => .nil
  | _, _, n + 1, .nil => .cons trivial (env_start n .nil)
  | _, _, n, .cons h t => .cons ⟨_, rfl, h⟩ (env_start n t)
/-- a def's body, by data. N: its names by slot -/
theorem df_mk {P : Program} {w : World} {K : PySem.W.Frag} {mg : Str → Option Value} {base : Heap} {x : Str} {st : Stmt} {f : Addr} {fd : FuncData} {N ps : List Str} {k : Nat} {R : List PyData → PyData → Prop} (hm : mg x = some (.ref f)) (F : Fun K x x st f fd)
    (S : FnScope N ps (defScope st)) (hb : Binds K fd ps []) (hlen : ∀ ds d, R ds d → ds.length = ps.length)
    (hbody : ∀ (cdv : Value) (A : Around) (outer : List Env) (s : Shared) (H : Hp) (E : XK) (os : List Addr) (ds : List PyData) (d : PyData), Room k (A.deeper (envOfC x (defScope st) s.heap.objs.size f cdv)) → R ds d →
      GB (cxOf CX0 P w K mg base N x (defScope st) f cdv A outer s H E).nox ⟨H, os, [], ds.map SD.dat ++ List.replicate (N.length - ds.length) SD.any⟩ (defBody st) (DR K H os d)) :
    DF P w K mg base x (k + 1) R := by
  have hl : ∀ vs H Q E, spD K R vs H Q E → vs.length = ps.length := fun vs H Q E ⟨os, ds, d, _, h1, h2, _⟩ => by rw [h1.len]; exact hlen ds d h2
  refine ⟨f, fd, ps, hm, F.kp, hb, F.ok S hl fun cdv A outer s H vs Q E hr h => ?_⟩
  obtain ⟨os, ds, d, ho, h1, h2, q⟩ := h
  have g := hbody cdv A outer s H E os ds d hr h2
  refine ⟨fun D σ H' => RUN (cxOf CX0 P w K mg base N x (defScope st) f cdv A outer s H E).nox (defBody st) D σ H', pss_run, ?_⟩
  have sa : SA K ⟨H, os, [], ds.map SD.dat ++ List.replicate (N.length - ds.length) SD.any⟩ (L2.start N vs) H := by
    refine ⟨Stp.refl H, ho, List.nodup_nil, fun _ m => absurd m (by simp), fun _ m => absurd m (by simp), ?_⟩
    unfold L2.start
    rw [h1.len]
    exact env_start _ h1
  refine RUN.mono (g _ _ sa) (fun σ H' z => ?_) (fun v H' z => q v H' z.1 z.2) (fun _ _ z => z.elim) fun _ _ z => z.elim
  obtain ⟨rfl, z⟩ := z
  exact q _ H' z .non

section
variable {X : Cx} {S : SS} {e a b c : Expr} {d d1 d2 d3 : PyData} {pos : Pos} {D : Ends} {rest : List Stmt}
theorem ve_call {x : Str} {p : Pos} {es : List Expr} {ds : List PyData} {k : Nat} {R : List PyData → PyData → Prop} (F : DF X.prog X.w X.K X.mg X.base x k R) (hr : Room k X.A) (ha : VA X S (e :: es) ds) (hR : R ds d) (hg : Gl X x := by rfl)
    (hdb : (x == ("__debug__" : Str)) = false := by decide) (he : starEach (e :: es) X.env = (false, eval e X.env) :: starEach es X.env := by rfl) (hpl : (backTo pos (starEach es X.env)).any (·.1) = false := by rfl) : VE X S (.Call (.Name x p) (e :: es) [] pos) d := by
  obtain ⟨f, fd, ps, h1, h2, h3, h4⟩ := F.ex
  refine PEimp (pe_call (E := E0) h4 hr hg h1 h2 h3 .nil pass0 ha hdb he hpl) fun σ H Q ⟨s, q⟩ => ⟨s, fun vs H1 s1 is => ?_⟩
  show spD X.K R (vs ++ []) H1 Q E0
  rw [List.append_nil]
  exact ⟨S.os, ds, d, (s.step s1).nt, is, hR, fun v H' s2 i => q v H' (s1.trans s2) i⟩

/-! ### states -/
abbrev SS.set (S : SS) (i : Nat) (d : SD) : SS := ⟨S.H0, S.os0, S.mu, S.rho.set i d⟩
theorem SA.set {K : PySem.W.Frag} {σ : L2.St} {H : Hp} (h : SA K S σ H) {i : Nat} {v : V} {sd : SD} (hv : SDOk K (hid S.os H) (some v) sd) : SA K (S.set i sd) (σ.set i (some v)) H :=
  ⟨h.stp, h.dom, h.nd, h.new, h.mok, h.env.set hv i⟩
theorem SA.weak {K : PySem.W.Frag} {σ : L2.St} {H : Hp} (h : SA K S σ H) {ρ : List SD} (hw : Weak S.rho ρ) : SA K ⟨S.H0, S.os0, S.mu, ρ⟩ σ H :=
  ⟨h.stp, h.dom, h.nd, h.new, h.mok, h.env.weak hw⟩

/-! ### statements -/
theorem gb_nil (h : ∀ σ H, SA X.K S σ H → D.nx σ H) : GB X S [] D := fun σ H s pins st I => wpAny_execs_nil ⟨σ, H, I, h σ H s⟩
/-- the end of an inner block -/
theorem gb_then (h : GB X S rest D) {D' : Ends} (e : D'.nx = RUN X rest D := by rfl) : GB X S [] D' := gb_nil fun σ H s => by rw [e]; exact h σ H s
/-- the end of a def that hands back None -/
theorem gb_end {D : Ends} (h : ∀ σ H, Stp S.os0 S.H0 H → D.nx σ H := by exact fun _ _ z => ⟨rfl, z⟩) : GB X S [] D := gb_nil fun σ H s => h σ H s.stp
theorem gb_set (i : Nat) {x : Str} {pos' : Pos} (he : VE X S e d) (hr : GB X (S.set i (.dat d)) rest D) (hN : X.N.Nodup) (hi : X.N[i]? = some x := by rfl) (hx : Loc X.env.scope x := by first | exact Or.inl rfl | exact Or.inr rfl)
    (hs : swapsWith e (some (.Name x pos')) pos.line X.env = pure false := by rfl) (hf : X.fn x = true ∨ X.env.scope.names.lookup x = some .local := by first | exact .inl rfl | exact .inr rfl | assumption) :
    GB X S (.Assign [.Name x pos'] e pos :: rest) D := fun σ H s =>
  run_cons (ps_set hN hi hx he hs hf) ⟨s, fun v H1 s1 i1 => hr _ H1 ((s.step s1).set (sd := .dat d) ⟨v, rfl, i1⟩)⟩
theorem gb_ret (he : VE X S e d) (hD : ∀ v H', Stp S.os0 S.H0 H' → Is X.K (hid S.os0 H') v d → D.rt v H' := by exact fun _ _ z y => ⟨z, y⟩) : GB X S (.Return (some e) pos :: rest) D := fun σ H s =>
  run_cons (ps_ret he) ⟨s, fun v H1 s1 i1 => hD v H1 (s.step s1).stp (i1.mono (hid_sub fun _ m => List.mem_append_right _ m))⟩
theorem gb_expr (he : VE X S e d) (hr : GB X S rest D) (hs : swapsWith e none pos.line X.env = pure false := by rfl) : GB X S (.Expr e pos :: rest) D := fun σ H s =>
  run_cons (ps_expr he hs) ⟨s, fun v H1 s1 i1 => hr _ H1 (s.step s1)⟩
theorem gb_if {k : Bool} {s1 s2 : List Stmt} (hc : VT X S c k) (h1 : k = true → GB X S s1 { D with nx := RUN X rest D }) (h2 : k = false → GB X S s2 { D with nx := RUN X rest D }) : GB X S (.If c s1 s2 pos :: rest) D := fun σ H s =>
  run_cons (ps_if hc pss_run pss_run) ⟨s, fun H1 st => by
    cases k with
    | true => exact h1 rfl _ H1 (s.step st)
    | false => exact h2 rfl _ H1 (s.step st)⟩
/-- an if whose suite is not entered, without else -/
theorem gb_ifNo {s1 : List Stmt} (hc : VT X S c false) (hr : GB X S rest D) : GB X S (.If c s1 [] pos :: rest) D := gb_if hc (fun z => nomatch z) fun _ => gb_then hr
theorem gb_brk : GB X S (.Break pos :: rest) { D with bk := fun σ H => SA X.K S σ H } := fun σ H s => run_cons ps_break s
theorem gb_break (h : ∀ σ H, SA X.K S σ H → D.bk σ H) : GB X S (.Break pos :: rest) D := fun σ H s => run_cons ps_break (h σ H s)
/-- join: what follows is shown once, from S' -/
theorem gb_ifJ (S' : SS) {k : Bool} {s1 s2 : List Stmt} (hc : VT X S c k) (h1 : k = true → GB X S s1 { D with nx := fun σ H => SA X.K S' σ H }) (h2 : k = false → GB X S s2 { D with nx := fun σ H => SA X.K S' σ H }) (hr : GB X S' rest D) :
    GB X S (.If c s1 s2 pos :: rest) D :=
  gb_if hc (fun z σ H s => RUN.mono (h1 z σ H s) hr (fun _ _ y => y) (fun _ _ y => y) fun _ _ y => y) fun z σ H s => RUN.mono (h2 z σ H s) hr (fun _ _ y => y) (fun _ _ y => y) fun _ _ y => y
end
end DL

namespace DL
open PySem PySem.Spec PyProof.Rows L2

/-! ### targets -/
inductive Tg where
  | nm (i : Nat) | two (i j : Nat) | three (i j k : Nat)
def Tg.g (K : PySem.W.Frag) : Tg → TG
  | .nm i => gName i
  | .two i j => gTup K 2 (gCons (gName i) (gCons (gName j) gNil))
  | .three i j k => gTup K 3 (gCons (gName i) (gCons (gName j) (gCons (gName k) gNil)))
def Tg.ix : Tg → List Nat
  | .nm i => [i]
  | .two i j => [i, j]
  | .three i j k => [i, j, k]
def Tg.put : Tg → PyData → List SD → Option (List SD)
  | .nm i, d, ρ => some (ρ.set i (.dat d))
  | .two i j, .tuple [a, b], ρ => some ((ρ.set i (.dat a)).set j (.dat b))
  | .two i j, .dict [(.int r, .int w)], ρ => some ((ρ.set i (.dat (.int r))).set j (.dat (.int w)))
  | .three i j k, .tuple [a, b, c], ρ => some (((ρ.set i (.dat a)).set j (.dat b)).set k (.dat c))
  | _, _, _ => none
theorem wipe_get (σ : L2.St) (k : Nat) : ∀ vs : List Nat, (wipe σ vs)[k]? = if k ∈ vs then (σ[k]?).map (fun _ => none) else σ[k]?
  | [] => by simp [wipe]
  | v :: vs => by
    unfold wipe
    have ih := wipe_get σ k vs
    by_cases h : v = k
    · subst h
      rw [if_pos List.mem_cons_self, List.getElem?_set]
      rw [if_pos rfl]
      have hl := wipe_length σ vs
      by_cases hv : v < σ.length
      · rw [if_pos (by omega), List.getElem?_eq_getElem hv]
        rfl
      · rw [if_neg (by omega), List.getElem?_eq_none (by omega)]
        rfl
    · rw [List.getElem?_set_ne h, ih]
      by_cases m : k ∈ vs
      · rw [if_pos m, if_pos (List.mem_cons_of_mem _ m)]
      · rw [if_neg m, if_neg (by simp only [List.mem_cons, not_or]; exact ⟨fun e => h e.symm, m⟩)]
theorem wipe_set {σ : L2.St} {i : Nat} {x : Option V} {vs : List Nat} (h : i ∈ vs) : wipe (σ.set i x) vs = wipe σ vs := by
  refine List.ext_getElem? fun k => ?_
  rw [wipe_get, wipe_get]
  by_cases m : k ∈ vs
  · rw [if_pos m, if_pos m, List.getElem?_set]
    by_cases e : i = k
    · subst e
      rw [if_pos rfl]
      by_cases hl : i < σ.length
      · rw [if_pos hl, List.getElem?_eq_getElem hl]
        rfl
      · rw [if_neg hl, List.getElem?_eq_none (by omega)]
    · rw [if_neg e]
  · rw [if_neg m, if_neg m, List.getElem?_set_ne fun e => m (by rw [← e]; exact h)]
theorem wipe_idem {σ : L2.St} {vs : List Nat} : wipe (wipe σ vs) vs = wipe σ vs := by
  refine List.ext_getElem? fun k => ?_
  rw [wipe_get, wipe_get]
  by_cases m : k ∈ vs
  · rw [if_pos m, if_pos m]
    cases σ[k]? <;> rfl
  · rw [if_neg m, if_neg m]
def wipeS (ρ : List SD) : List Nat → List SD
  | [] => ρ
  | v :: vs => (wipeS ρ vs).set v .any
theorem EnvOk.wipe {K : PySem.W.Frag} {H : Hp} {σ : L2.St} {ρ : List SD} (h : EnvOk K H σ ρ) : ∀ vs : List Nat, EnvOk K H (wipe σ vs) (wipeS ρ vs)
  | [] => h
  | v :: vs => EnvOk.forget none v (EnvOk.wipe h vs)
theorem EnvOk.setD {K : PySem.W.Frag} {H : Hp} {v : V} {d : PyData} (i : Is K H v d) {σ : L2.St} {ρ : List SD} (k : Nat) (h : EnvOk K H σ ρ) : EnvOk K H (σ.set k (some v)) (ρ.set k (.dat d)) := EnvOk.set (d := .dat d) ⟨v, rfl, i⟩ k h
theorem Tg.run {K : PySem.W.Frag} {os : List Addr} {H : Hp} {t : Tg} {v : V} {d : PyData} {σ : L2.St} {ρ ρ' : List SD} {Q : L2.St → Hp → Prop} (h : t.put d ρ = some ρ') (i : Is K (hid os H) v d) (e : EnvOk K (hid os H) σ ρ)
    (q : ∀ σ', EnvOk K (hid os H) σ' ρ' → (∀ vs, (∀ i ∈ t.ix, i ∈ vs) → L2.wipe σ' vs = L2.wipe σ vs) → Q σ' H) : t.g K v σ H Q := by
  cases t with
  | nm a =>
    cases h
    exact q _ (e.setD i a) fun vs hv => wipe_set (hv a (by simp [Tg.ix]))
  | two a b =>
    unfold Tg.put at h
    split at h
    · rename_i e0; cases e0
    · rename_i e0
      cases e0
      cases h
      obtain ⟨p, xs, rfl, h1, h2⟩ := i_tup i
      obtain ⟨v1, v2, rfl, i1, i2⟩ := all2 h2
      refine ⟨p, [v1, v2], rfl, hid_ext.t h1, rfl, v1, [v2], rfl, v2, [], rfl, rfl, ?_⟩
      refine q _ ((e.setD i1 a).setD i2 b) fun vs hv => ?_
      rw [wipe_set (hv b (by simp [Tg.ix])), wipe_set (hv a (by simp [Tg.ix]))]
    · rename_i r w e0
      cases e0
      cases h
      obtain ⟨p, rfl, h1⟩ := i_key (k := (r, w)) i
      refine ⟨p, _, rfl, SqT.of (hid_some h1).2, rfl, _, _, rfl, _, _, rfl, rfl, ?_⟩
      refine q _ ((e.setD (.int _) a).setD (.int _) b) fun vs hv => ?_
      rw [wipe_set (hv b (by simp [Tg.ix])), wipe_set (hv a (by simp [Tg.ix]))]
    · rename_i e0
      cases e0
    · cases h
  | three a b c =>
    cases d with
    | tuple ds =>
      match ds, h with
      | [d1, d2, d3], h =>
        cases h
        obtain ⟨p, xs, rfl, h1, h2⟩ := i_tup i
        obtain ⟨v1, v2, v3, rfl, i1, i2, i3⟩ := all3 h2
        refine ⟨p, [v1, v2, v3], rfl, hid_ext.t h1, rfl, v1, [v2, v3], rfl, v2, [v3], rfl, v3, [], rfl, rfl, ?_⟩
        refine q _ (((e.setD i1 a).setD i2 b).setD i3 c) fun vs hv => ?_
        rw [wipe_set (hv c (by simp [Tg.ix])), wipe_set (hv b (by simp [Tg.ix])), wipe_set (hv a (by simp [Tg.ix]))]
    | _ => cases h
section
variable {X : Cx}
theorem tg_nm {i : Nat} {x : Str} {pos : Pos} (hN : X.N.Nodup) (hi : X.N[i]? = some x := by rfl) (hx : Loc X.env.scope x := by first | exact Or.inl rfl | exact Or.inr rfl) (hf : X.fn x = true ∨ X.env.scope.names.lookup x = some .local := by first | exact .inl rfl | exact .inr rfl | assumption) :
    PG X (.Name x pos) ((Tg.nm i).g X.K) := pg_name hN hi hx hf
theorem tg_two {i j k : Nat} {x y : Str} {p1 p2 pos : Pos} (hc : X.calm = true) (hN : X.N.Nodup) (hi : X.N[i]? = some x := by rfl) (hj : X.N[j]? = some y := by rfl) (hx : Loc X.env.scope x := by first | exact Or.inl rfl | exact Or.inr rfl) (hy : Loc X.env.scope y := by first | exact Or.inl rfl | exact Or.inr rfl)
    (hf : X.fn x = true ∨ X.env.scope.names.lookup x = some .local := by first | exact .inl rfl | exact .inr rfl | assumption) (hf2 : X.fn y = true ∨ X.env.scope.names.lookup y = some .local := by first | exact .inl rfl | exact .inr rfl | assumption) :
    PG X (.Tuple [.Name x p1, .Name y p2] k pos) ((Tg.two i j).g X.K) := pg_tup hc (pgs_cons (pg_name hN hi hx hf) (pgs_cons (pg_name hN hj hy hf2) pgs_nil))
theorem tg_three {i j l k : Nat} {x y z : Str} {p1 p2 p3 pos : Pos} (hc : X.calm = true) (hN : X.N.Nodup) (hi : X.N[i]? = some x := by rfl) (hj : X.N[j]? = some y := by rfl) (hl : X.N[l]? = some z := by rfl) (hx : Loc X.env.scope x := by first | exact Or.inl rfl | exact Or.inr rfl) (hy : Loc X.env.scope y := by first | exact Or.inl rfl | exact Or.inr rfl)
    (hz : Loc X.env.scope z := by first | exact Or.inl rfl | exact Or.inr rfl) (hf : X.fn x = true ∨ X.env.scope.names.lookup x = some .local := by first | exact .inl rfl | exact .inr rfl | assumption) (hf2 : X.fn y = true ∨ X.env.scope.names.lookup y = some .local := by first | exact .inl rfl | exact .inr rfl | assumption)
    (hf3 : X.fn z = true ∨ X.env.scope.names.lookup z = some .local := by first | exact .inl rfl | exact .inr rfl | assumption) :
    PG X (.Tuple [.Name x p1, .Name y p2, .Name z p3] k pos) ((Tg.three i j l).g X.K) := pg_tup hc (pgs_cons (pg_name hN hi hx hf) (pgs_cons (pg_name hN hj hy hf2) (pgs_cons (pg_name hN hl hz hf3) pgs_nil)))
end

section
variable {X : Cx} {S : SS} {e a b c : Expr} {d d1 d2 d3 : PyData} {pos : Pos} {D : Ends} {rest : List Stmt}
theorem SA.tg {K : PySem.W.Frag} {σ : L2.St} {H : Hp} {t : Tg} {v : V} {ρ' : List SD} {Q : L2.St → Hp → Prop} (s : SA K S σ H) (h : t.put d S.rho = some ρ') (i : Is K (hid S.os H) v d) (q : ∀ σ', SA K ⟨S.H0, S.os0, S.mu, ρ'⟩ σ' H → Q σ' H) : t.g K v σ H Q :=
  Tg.run h i s.env fun σ' e _ => q σ' ⟨s.stp, s.dom, s.nd, s.new, s.mok, e⟩
/-- a, b = e -/
theorem gb_unpack (t : Tg) {tg : Expr} {ρ' : List SD} (ht : PG X tg (t.g X.K)) (he : VE X S e d) (hp : t.put d S.rho = some ρ') (hr : GB X ⟨S.H0, S.os0, S.mu, ρ'⟩ rest D) (hs : swapsWithSole [tg] e pos.line X.env = pure false := by rfl) (hw : swappedStores [tg] e X.env = pure none := by rfl)
    (h1 : (assignEach [tg] X.env).map (·.2) = [assign tg X.env] := by rfl) : GB X S (.Assign [tg] e pos :: rest) D := fun σ H s =>
  run_cons (ps_asg he ht hs hw h1) ⟨s, fun v H1 s1 i1 => (s.step s1).tg hp i1 fun σ' s' => hr σ' H1 s'⟩

/-! ### another base -/
theorem SA.base {K : PySem.W.Frag} {σ : L2.St} {H : Hp} (s : SA K S σ H) : Ext (hid S.os0 S.H0) (hid S.os H) := fun a o h => by
  obtain ⟨m, q⟩ := hid_some h
  have n : a ∉ S.os := fun z => by
    rcases List.mem_append.mp z with z | z
    · rw [s.new a z] at q
      cases q
    · exact m z
  rw [hid_out n]
  exact s.stp.ext a o q
/-- the heap as it stands, without what is owned here -/
abbrev SS.now (S : SS) (H : Hp) : Hp := hid (S.mu.map (·.1)) H
theorem SA.nowStp {K : PySem.W.Frag} {σ : L2.St} {H : Hp} (s : SA K S σ H) : Stp S.os0 S.H0 (S.now H) := by
  have n : ∀ a o, S.H0 a = some o → a ∉ S.mu.map (·.1) := fun a o q z => by
    rw [s.new a z] at q
    cases q
  exact ⟨fun a o q => by rw [show S.now H a = H a from hid_out (n a o q)]; exact s.stp.ext a o q, fun a m o q => by rw [show S.now H a = H a from hid_out (n a o q)]; exact s.stp.own a m o q⟩
theorem SA.rebase {K : PySem.W.Frag} {σ : L2.St} {H : Hp} (s : SA K S σ H) : SA K ⟨S.now H, S.os0, S.mu, S.rho⟩ σ H :=
  ⟨⟨hid_ext, fun a m o q => (hid_some q).2⟩, fun a m => by
    obtain ⟨o, h1, h2⟩ := s.dom a m
    exact ⟨o, s.nowStp.own a m o h1, h2⟩, s.nd, fun a m => hid_in m, s.mok, s.env⟩
theorem SA.unbase {K : PySem.W.Frag} {σ : L2.St} {H H0 Hb : Hp} {os0 : List Addr} {mu : List (Addr × MO)} {ρ : List SD} (s : SA K ⟨Hb, os0, mu, ρ⟩ σ H) (b : Stp os0 H0 Hb) (dom : ∀ a ∈ os0, ∃ o, H0 a = some o ∧ NT o) : SA K ⟨H0, os0, mu, ρ⟩ σ H :=
  ⟨b.trans s.stp, dom, s.nd, fun a m => b.ext.back (s.new a m), s.mok, s.env⟩
/-- a datum told at the base stands -/
theorem SA.is {K : PySem.W.Frag} {σ : L2.St} {H : Hp} {v : V} (s : SA K S σ H) (i : Is K (hid S.os0 S.H0) v d) : Is K (hid S.os H) v d := i.mono s.base

/-! ### for over a list -/
/-- what holds at a loop's head, by a ghost state g; Hb: the heap as it stood ahead of the loop -/
abbrev Hd (K : PySem.W.Frag) (Hb : Hp) (os0 : List Addr) {γ : Type} (Iv : γ → Prop) (mu : γ → List (Addr × MO)) (rho : γ → List SD) : L2.St → Hp → Prop := fun σ H => ∃ g, Iv g ∧ SA K ⟨Hb, os0, mu g, rho g⟩ σ H
theorem hid_hid {os os' : List Addr} {H : Hp} : hid os' (hid os H) = hid (os ++ os') H := funext fun a => by
  by_cases m : a ∈ os
  · by_cases m' : a ∈ os'
    · rw [hid_in m', hid_in (List.mem_append_left _ m)]
    · rw [hid_out m', hid_in m, hid_in (List.mem_append_left _ m)]
  · by_cases m' : a ∈ os'
    · rw [hid_in m', hid_in (List.mem_append_right _ m')]
    · rw [hid_out m', hid_out m, hid_out (by simp only [List.mem_append, not_or]; exact ⟨m, m'⟩)]
theorem gb_forL {γ : Type} (t : Tg) (Iv : Nat → γ → Prop) (mu : γ → List (Addr × MO)) (rho : γ → List SD) {tg iter : Expr} {body : List Stmt} {ds : List PyData} (hi : VE X S iter (.list ds)) (ht : PG X tg (t.g X.K))
    (h0 : ∃ g, Iv 0 g ∧ mu g = S.mu ∧ Weak S.rho (rho g))
    (hb : ∀ Hb, Stp S.os0 S.H0 Hb → ∀ k d g, ds[k]? = some d → Iv k g → ∃ ρ', t.put d (rho g) = some ρ' ∧ GB X ⟨Hb, S.os0, mu g, ρ'⟩ body { D with nx := Hd X.K Hb S.os0 (Iv (k + 1)) mu rho, ct := Hd X.K Hb S.os0 (Iv (k + 1)) mu rho, bk := RUN X rest D })
    (hd : ∀ g, Iv ds.length g → GB X ⟨S.H0, S.os0, mu g, rho g⟩ rest D) (hc : X.calm = true) (hp : PassesOwn (model X.prog X.w) X.A X.env X.xe := by exact PassesOwn.never) (hs : ∀ x, foldedSetIterable iter X.env x = pure x := by intro _; rfl) :
    GB X S (.For tg iter body [] pos :: rest) D := fun σ H s => by
  refine run_cons (ps_for hp hc (pi_list hi) ht pss_run hs) ⟨s, fun v H1 s1 i1 => ?_⟩
  obtain ⟨p, xs, rfl, h1, h2⟩ := i_lst i1
  have sn := s.step s1
  have e1 : hid S.os0 (S.now H1) = hid S.os H1 := hid_hid
  rw [← e1] at h1 h2
  obtain ⟨g0, i0, m0, w0⟩ := h0
  have dom0 := s.dom
  refine ⟨p, rfl, ⟨xs, hid_ext.l (hid_ext.l h1)⟩, for_list (K := X.K) (a := p) (xs := xs) (fun i σ' H' => Hd X.K (S.now H1) S.os0 (Iv i) mu rho σ' H') ⟨g0, i0, by rw [m0]; exact sn.rebase.weak w0⟩ ?_ ?_ ?_⟩
  · rintro i σ' H' _ ⟨g, _, sg⟩
    exact hid_ext.l (sg.base.l h1)
  · rintro i x σ' H' hx ⟨g, ig, sg⟩
    obtain ⟨d', hd', id'⟩ := h2.getV hx
    obtain ⟨ρ', hp', gb⟩ := hb _ sn.nowStp i d' g hd' ig
    exact sg.tg hp' (sg.is id') fun σ2 s2 => gb σ2 H' s2
  · rintro σ' H' ⟨g, ig, sg⟩
    rw [h2.len] at ig
    exact hd g ig σ' H' (sg.unbase sn.nowStp dom0)
/-- .. a fold over typed items -/
theorem gb_fold {γ α : Type} (t : Tg) (xs : List α) (enc : α → PyData) (step : γ → α → γ) (g0 : γ) (mu : γ → List (Addr × MO)) (rho : γ → List SD) {tg iter : Expr} {body : List Stmt} (hi : VE X S iter (.list (xs.map enc))) (ht : PG X tg (t.g X.K))
    (h0 : mu g0 = S.mu ∧ Weak S.rho (rho g0))
    (hb : ∀ Hb, Stp S.os0 S.H0 Hb → ∀ k x, xs[k]? = some x → ∃ ρ', t.put (enc x) (rho ((xs.take k).foldl step g0)) = some ρ' ∧
      GB X ⟨Hb, S.os0, mu ((xs.take k).foldl step g0), ρ'⟩ body { D with nx := SA X.K ⟨Hb, S.os0, mu (step ((xs.take k).foldl step g0) x), rho (step ((xs.take k).foldl step g0) x)⟩, ct := SA X.K ⟨Hb, S.os0, mu (step ((xs.take k).foldl step g0) x), rho (step ((xs.take k).foldl step g0) x)⟩, bk := RUN X rest D })
    (hd : GB X ⟨S.H0, S.os0, mu (xs.foldl step g0), rho (xs.foldl step g0)⟩ rest D) (hc : X.calm = true) (hp : PassesOwn (model X.prog X.w) X.A X.env X.xe := by exact PassesOwn.never) (hs : ∀ x, foldedSetIterable iter X.env x = pure x := by intro _; rfl) :
    GB X S (.For tg iter body [] pos :: rest) D := by
  refine gb_forL t (fun k g => g = (xs.take k).foldl step g0) mu rho hi ht ⟨g0, rfl, h0⟩ (fun Hb bb k d g hk hg => ?_) (fun g hg => ?_) hc hp hs
  · rw [List.getElem?_map] at hk
    cases e : xs[k]? with
    | none => rw [e] at hk; cases hk
    | some x =>
      rw [e] at hk
      cases hk
      subst hg
      obtain ⟨ρ', h1, h2⟩ := hb Hb bb k x e
      have e2 : (xs.take (k + 1)).foldl step g0 = step ((xs.take k).foldl step g0) x := by
        rw [List.take_add_one, e, List.foldl_append]
        rfl
      refine ⟨ρ', h1, fun σ H s => RUN.mono (h2 σ H s) (fun σ' H' z => ⟨_, e2.symm, z⟩) (fun _ _ z => z) (fun _ _ z => z) (fun σ' H' z => ⟨_, e2.symm, z⟩)⟩
  · rw [List.length_map, List.take_length] at hg
    subst hg
    exact hd
/-! ### for over a range -/
theorem gb_range {γ : Type} (n : Int) (i : Nat) (Iv : Nat → γ → Prop) (mu : γ → List (Addr × MO)) (rho : γ → List SD) {x : Str} {tp : Pos} {p cp : Pos} {body : List Stmt} (hm : X.mg "range" = none) (hn : -(2 ^ 62) ≤ n ∧ n < 2 ^ 62) (ha : VE X S a (.int n))
    (ht : PG X (.Name x tp) ((Tg.nm i).g X.K))
    (h0 : ∃ g, Iv 0 g ∧ mu g = S.mu ∧ Weak S.rho (rho g))
    (hb : ∀ k g, k < n.toNat → Iv k g → GB X ⟨S.H0, S.os0, mu g, (rho g).set i (.dat (.int (k : Nat)))⟩ body { D with nx := Hd X.K S.H0 S.os0 (Iv (k + 1)) mu rho, ct := Hd X.K S.H0 S.os0 (Iv (k + 1)) mu rho, bk := RUN X rest D })
    (hd : ∀ g, Iv n.toNat g → GB X ⟨S.H0, S.os0, mu g, rho g⟩ rest D) (hc : X.calm = true) (hg : Gl X "range" := by rfl) (hst : starEach [a] X.env = [(false, eval a X.env)] := by rfl) (hp : PassesOwn (model X.prog X.w) X.A X.env X.xe := by exact PassesOwn.never)
    (hs : ∀ x, foldedSetIterable (.Call (.Name "range" p) [a] [] cp) X.env x = pure x := by intro _; rfl) :
    GB X S (.For (.Name x tp) (.Call (.Name "range" p) [a] [] cp) body [] pos :: rest) D := fun σ H s => by
  refine run_cons (ps_for hp hc (pi_range1 hg hm (va_cons ha va_nil hst) hst) ht pss_run hs) ⟨s, fun vs H1 s1 is => ?_⟩
  obtain ⟨v, rfl, iv⟩ := all1 is
  obtain ⟨g0, i0, m0, w0⟩ := h0
  refine ⟨n, by rw [i_int iv], hn.1, hn.2, for_range (fun k σ' H' => Hd X.K S.H0 S.os0 (Iv k) mu rho σ' H') ⟨g0, i0, by rw [m0]; exact (s.step s1).weak w0⟩ ?_ ?_⟩
  · rintro k σ' H' hk ⟨g, ig, sg⟩
    have q := hb k g hk ig
    rw [Int.zero_add]
    exact sg.tg (t := .nm i) (d := .int (k : Nat)) rfl (.int _) fun σ2 s2 => q σ2 H' s2
  · rintro σ' H' ⟨g, ig, sg⟩
    exact hd g ig σ' H' sg
/-- .. a fold -/
theorem gb_foldR {γ : Type} (n : Nat) (i : Nat) (step : γ → Nat → γ) (g0 : γ) (mu : γ → List (Addr × MO)) (rho : γ → List SD) {x : Str} {tp : Pos} {p cp : Pos} {body : List Stmt} (hm : X.mg "range" = none) (hn : n < 2 ^ 62) (ha : VE X S a (.int (n : Int)))
    (ht : PG X (.Name x tp) ((Tg.nm i).g X.K)) (h0 : mu g0 = S.mu ∧ Weak S.rho (rho g0))
    (hb : ∀ k, k < n → GB X ⟨S.H0, S.os0, mu ((List.range k).foldl step g0), (rho ((List.range k).foldl step g0)).set i (.dat (.int (k : Nat)))⟩ body
      { D with nx := SA X.K ⟨S.H0, S.os0, mu (step ((List.range k).foldl step g0) k), rho (step ((List.range k).foldl step g0) k)⟩, ct := SA X.K ⟨S.H0, S.os0, mu (step ((List.range k).foldl step g0) k), rho (step ((List.range k).foldl step g0) k)⟩, bk := RUN X rest D })
    (hd : GB X ⟨S.H0, S.os0, mu ((List.range n).foldl step g0), rho ((List.range n).foldl step g0)⟩ rest D) (hc : X.calm = true) (hg : Gl X "range" := by rfl) (hst : starEach [a] X.env = [(false, eval a X.env)] := by rfl) (hp : PassesOwn (model X.prog X.w) X.A X.env X.xe := by exact PassesOwn.never)
    (hs : ∀ x, foldedSetIterable (.Call (.Name "range" p) [a] [] cp) X.env x = pure x := by intro _; rfl) :
    GB X S (.For (.Name x tp) (.Call (.Name "range" p) [a] [] cp) body [] pos :: rest) D := by
  refine gb_range (n : Int) i (fun k g => g = (List.range k).foldl step g0) mu rho hm ⟨by omega, by omega⟩ ha ht ⟨g0, rfl, h0⟩ (fun k g hk hg => ?_) (fun g hg => ?_) hc hg hst hp hs
  · subst hg
    have e2 : (List.range (k + 1)).foldl step g0 = step ((List.range k).foldl step g0) k := by
      rw [List.range_succ, List.foldl_append]
      rfl
    refine fun σ H s => RUN.mono (hb k (by omega) σ H s) (fun σ' H' z => ⟨_, e2.symm, z⟩) (fun _ _ z => z) (fun _ _ z => z) (fun σ' H' z => ⟨_, e2.symm, z⟩)
  · rw [Int.toNat_natCast] at hg
    subst hg
    exact hd
end
end DL

namespace DL
open PySem PySem.Spec PyProof.Rows L2

/-- an owned thing's content changes -/
theorem SA.mut {K : PySem.W.Frag} {S : SS} {σ : L2.St} {H : Hp} (s : SA K S σ H) {j : Nat} {p : Addr} {m m' : MO} {o : HO} (hj : S.mu[j]? = some (p, m)) (new : MIs K (hid S.os H) (upd H p o) p m') : SA K ⟨S.H0, S.os0, S.mu.set j (p, m'), S.rho⟩ σ (upd H p o) := by
  have hlt := (List.getElem?_eq_some_iff.mp hj).1
  have he := (List.getElem?_eq_some_iff.mp hj).2
  have am : (S.mu.set j (p, m')).map (·.1) = S.mu.map (·.1) := by
    refine List.ext_getElem? fun k => ?_
    rw [List.getElem?_map, List.getElem?_map, List.getElem?_set]
    by_cases e : j = k
    · subst e
      rw [if_pos rfl, if_pos hlt, hj]
      rfl
    · rw [if_neg e]
  have pin : p ∈ S.mu.map (·.1) := List.mem_map.mpr ⟨_, List.mem_of_getElem? hj, rfl⟩
  have pos : p ∈ S.os := List.mem_append_left _ pin
  have p0 : S.H0 p = none := s.new p pin
  have eo : hid (SS.os ⟨S.H0, S.os0, S.mu.set j (p, m'), S.rho⟩) (upd H p o) = hid S.os H := by
    show hid ((S.mu.set j (p, m')).map (·.1) ++ S.os0) _ = _
    rw [am]
    exact hid_upd_in pos
  refine ⟨⟨fun a u q => ?_, fun a ma u q => ?_⟩, s.dom, by show ((S.mu.set j (p, m')).map (·.1)).Nodup; rw [am]; exact s.nd, fun a ma => s.new a (by rw [← am]; exact ma), fun q mq => ?_, by rw [eo]; exact s.env⟩
  · rw [upd_ne (ne_of_none q p0)]
    exact s.stp.ext a u q
  · rw [upd_ne (ne_of_none q p0)]
    exact s.stp.own a ma u q
  · rw [eo]
    obtain ⟨k, hk⟩ := List.getElem?_of_mem mq
    have hk' : (S.mu.set j (p, m'))[k]? = some q := hk
    rw [List.getElem?_set] at hk'
    by_cases e : j = k
    · subst e
      rw [if_pos rfl, if_pos hlt] at hk'
      cases hk'
      exact new
    · rw [if_neg e] at hk'
      have ne : q.1 ≠ p := fun z => by
        have a1 : (S.mu.map (·.1))[k]? = some p := by rw [List.getElem?_map, hk']; exact congrArg some z
        have a2 : (S.mu.map (·.1))[j]? = some p := by rw [List.getElem?_map, hj]; rfl
        exact e (nd_ix s.nd a2 a1)
      exact (s.mok q (List.mem_of_getElem? hk')).keep (Ext.refl _) fun u z => by rw [upd_ne ne]; exact z
/-- a new owned thing -/
theorem SA.own {K : PySem.W.Frag} {S : SS} {σ : L2.St} {H : Hp} (s : SA K S σ H) {p : Addr} {o : HO} {m : MO} (hp : H p = none) (new : MIs K (hid S.os H) (upd H p o) p m) : SA K ⟨S.H0, S.os0, (p, m) :: S.mu, S.rho⟩ σ (upd H p o) := by
  have nos := s.fresh hp
  have p0 : S.H0 p = none := s.stp.ext.back hp
  have eo : hid (SS.os ⟨S.H0, S.os0, (p, m) :: S.mu, S.rho⟩) (upd H p o) = hid S.os H := by
    funext a
    by_cases z : a = p
    · subst z
      rw [hid_in (List.mem_append_left _ (List.mem_map.mpr ⟨(a, m), List.mem_cons_self, rfl⟩)), hid_out nos, hp]
    · by_cases y : a ∈ S.os
      · rw [hid_in y, hid_in]
        rcases List.mem_append.mp y with y | y
        · exact List.mem_append_left _ (List.mem_cons_of_mem _ y)
        · exact List.mem_append_right _ y
      · rw [hid_out y, hid_out, upd_ne z]
        intro h
        rcases List.mem_append.mp h with h | h
        · rcases List.mem_cons.mp h with h | h
          · exact z h
          · exact y (List.mem_append_left _ h)
        · exact y (List.mem_append_right _ h)
  have s2 := s.step (Stp.new (o := o) hp)
  refine ⟨s2.stp, s.dom, List.nodup_cons.mpr ⟨fun z => nos (List.mem_append_left _ z), s.nd⟩, fun a ma => ?_, fun q mq => ?_, by rw [eo]; exact s.env⟩
  · rcases List.mem_cons.mp ma with z | z
    · rw [z]; exact p0
    · exact s.new a z
  · rw [eo]
    rcases List.mem_cons.mp mq with rfl | mq
    · exact new
    · refine (s.mok q mq).keep (Ext.refl _) fun u z => ?_
      rw [upd_ne (ne_of_none z hp)]
      exact z

theorem Stp.mutNew {os : List Addr} {H H' : Hp} {p : Addr} {o : HO} (s : Stp os H H') (h : H p = none) : Stp os H (upd H' p o) :=
  ⟨fun a u e => by
    rw [upd_ne (ne_of_none e h)]
    exact s.ext a u e, fun a m u e => by
    rw [upd_ne (ne_of_none e h)]
    exact s.own a m u e⟩
/-! ### list comprehensions -/
def tEl (K : PySem.W.Frag) (G : SS → PyData → Prop) : TE := fun σ H Q => ∃ S' y, G S' y ∧ tD K S' y σ H Q
def tEt (K : PySem.W.Frag) (G : SS → Bool → Prop) : TT := fun σ H Q => ∃ S' y, G S' y ∧ tDT K S' y σ H Q
theorem pe_el {X : Cx} {e : Expr} {G : SS → PyData → Prop} (h : ∀ S' y, G S' y → VE X S' e y) : PE X e (tEl X.K G) := ⟨fun pins s σ H Q I ⟨S', y, g, q⟩ => (h S' y g).run pins s σ H Q I q⟩
abbrev VTs (X : Cx) (S : SS) (ifs : List Expr) (b : Bool) : Prop := PTs X ifs (tDT X.K S b)
theorem pts_el {X : Cx} {ifs : List Expr} {G : SS → Bool → Prop} (h : ∀ S' y, G S' y → VTs X S' ifs y) : PTs X ifs (tEt X.K G) := ⟨fun pins s σ H Q I ⟨S', y, g, q⟩ => (h S' y g).run pins s σ H Q I q⟩
theorem vts_nil {X : Cx} {S : SS} : VTs X S [] true := ⟨fun pins s σ H Q I ⟨sa, q⟩ => pts_nil.run pins s σ H Q I (q H (Stp.refl H))⟩
theorem vts_one {X : Cx} {S : SS} {c : Expr} {b : Bool} (h : VT X S c b) : VTs X S [c] b := pts_one h
/-- the state within a comprehension's turn -/
abbrev SS.blk (S : SS) (Hb : Hp) (D : Addr) (acc : List PyData) (ρ : List SD) : SS := ⟨Hb, S.os0, (D, .ml acc) :: S.mu, ρ⟩
section
variable {K : PySem.W.Frag} {S : SS} {σ : L2.St} {H H1 : Hp} {GT : SS → Bool → Prop} {GE : SS → PyData → Prop}
/-- what holds at a turn's head -/
def LcP (K : PySem.W.Frag) (S : SS) (σ : L2.St) (vs : List Nat) (H1 : Hp) (D : Addr) (acc : List PyData) (H' : Hp) : Prop := SA K (S.blk (S.now H1) D acc (wipeS S.rho vs)) (wipe σ vs) H' ∧ Stp S.os H1 H' ∧ H1 D = none
theorem LcP.start {vs : List Nat} {D : Addr} (s : SA K S σ H1) (hD : H1 D = none) : LcP K S σ vs H1 D [] (upd H1 D (.lst [])) := by
  have s0 : SA K ⟨S.now H1, S.os0, S.mu, wipeS S.rho vs⟩ (wipe σ vs) H1 := ⟨s.rebase.stp, s.rebase.dom, s.nd, s.rebase.new, s.mok, s.env.wipe vs⟩
  exact ⟨s0.own (m := .ml []) hD ⟨[], upd_same, .nil⟩, Stp.new hD, hD⟩
theorem LcP.done {vs : List Nat} {D : Addr} {acc : List PyData} {H' : Hp} {Q : VK} (s : SA K S σ H1) (p : LcP K S σ vs H1 D acc H') (q : Want K S (.list acc) H1 Q) : Q (.ref D) H' := by
  obtain ⟨sa, st, hD⟩ := p
  obtain ⟨xs, h1, h2⟩ := sa.mok _ List.mem_cons_self
  refine q _ _ st (.lst (SqL.of ?_) (h2.mono (hid_sub fun a m => ?_)))
  · rw [hid_out (s.fresh hD)]
    exact h1
  · rcases List.mem_append.mp m with m | m
    · exact List.mem_append_left _ (List.mem_cons_of_mem _ m)
    · exact List.mem_append_right _ m
theorem LcP.turn {vs : List Nat} {D : Addr} {acc acc' : List PyData} {H' : Hp} {t : Tg} {x : V} {d : PyData} {ρ' : List SD} {b : Bool} (p : LcP K S σ vs H1 D acc H') (hix : ∀ i ∈ t.ix, i ∈ vs)
    (ix : Is K (hid (S.blk (S.now H1) D acc (wipeS S.rho vs)).os H') x d) (hp : t.put d (wipeS S.rho vs) = some ρ') (gt : GT (S.blk (S.now H1) D acc ρ') b)
    (yes : b = true → ∃ y, GE (S.blk (S.now H1) D acc ρ') y ∧ acc' = acc ++ [y]) (no : b = false → acc' = acc) (hz : acc.length < sizeLine) :
    t.g K x (wipe σ vs) H' fun σ2 H2 => wipe σ2 vs = wipe σ vs ∧ tEt K GT σ2 H2 fun b H3 =>
      if b = true then tEl K GE σ2 H3 fun y H4 => ∃ acc, H4 D = some (.lst acc) ∧ acc.length < sizeLine ∧ LcP K S σ vs H1 D acc' (upd H4 D (.lst (acc ++ [y]))) else LcP K S σ vs H1 D acc' H3 := by
  obtain ⟨sa, st, hD⟩ := p
  refine Tg.run hp ix sa.env fun σ2 e2 w2 => ⟨by rw [w2 vs hix, wipe_idem], ?_⟩
  have s2 : SA K (S.blk (S.now H1) D acc ρ') σ2 H' := ⟨sa.stp, sa.dom, sa.nd, sa.new, sa.mok, e2⟩
  have sub : ∀ a, a ∈ S.os → a ∈ (S.blk (S.now H1) D acc ρ').os := fun a m => by
    rcases List.mem_append.mp m with m | m
    · exact List.mem_append_left _ (List.mem_cons_of_mem _ m)
    · exact List.mem_append_right _ m
  refine ⟨_, b, gt, s2, fun H3 s3 => ?_⟩
  cases b with
  | true =>
    obtain ⟨y, ge, rfl⟩ := yes rfl
    show tEl K GE σ2 H3 _
    refine ⟨_, y, ge, s2.step s3, fun v H4 s4 i4 => ?_⟩
    have sa4 := sa.step (s3.trans s4)
    obtain ⟨xs, h1, h2⟩ := sa4.mok _ List.mem_cons_self
    refine ⟨xs, h1, by rw [h2.len]; exact hz, sa4.mut (j := 0) (m' := .ml (acc ++ [y])) rfl ⟨xs ++ [v], upd_same, h2.app (.cons i4 .nil)⟩, (st.trans ((s3.trans s4).sub sub)).mutNew hD, hD⟩
  | false =>
    show LcP K S σ vs H1 D acc' H3
    rw [no rfl]
    exact ⟨sa.step s3, st.trans (s3.sub sub), hD⟩
/-- the reading of a comprehension over a list, over a range -/
theorem lc_readL {vs : List Nat} {t : Tg} {ds : List PyData} {Q : VK} (out : Nat → List PyData) (h0 : out 0 = []) (s : SA K S σ H) (q : Want K S (.list (out ds.length)) H Q) (hz : ∀ k, k < ds.length → (out k).length < sizeLine) (hix : ∀ i ∈ t.ix, i ∈ vs)
    (hb : ∀ Hb D k d, Stp S.os0 S.H0 Hb → ds[k]? = some d → ∃ ρ' b, t.put d (wipeS S.rho vs) = some ρ' ∧ GT (S.blk Hb D (out k) ρ') b ∧ (b = true → ∃ y, GE (S.blk Hb D (out k) ρ') y ∧ out (k + 1) = out k ++ [y]) ∧ (b = false → out (k + 1) = out k)) :
    tLc (iList K (tD K S (.list ds))) (t.g K) (tEt K GT) (tEl K GE) vs σ H Q := by
  refine ⟨s, fun v H1 s1 i1 => ?_⟩
  obtain ⟨p, xs, rfl, h1, h2⟩ := i_lst i1
  have sn := s.step s1
  have e1 : hid S.os0 (S.now H1) = hid S.os H1 := hid_hid
  rw [← e1] at h1 h2
  refine ⟨p, rfl, ⟨xs, hid_ext.l (hid_ext.l h1)⟩, fun D hD => lc_list (K := K) (xs := xs) (fun i H' => LcP K S σ vs H1 D (out i) H') (by rw [h0]; exact LcP.start sn hD) ?_ ?_ ?_⟩
  · intro i H' _ p'
    exact hid_ext.l (p'.1.base.l h1)
  · intro i x H' hx p'
    obtain ⟨d', hd', id'⟩ := h2.getV hx
    obtain ⟨ρ', b, hp, gt, yes, no⟩ := hb (S.now H1) D i d' sn.nowStp hd'
    exact p'.turn hix (p'.1.is id') hp gt yes no (hz i (List.getElem?_eq_some_iff.mp hd').1)
  · intro H' p'
    rw [h2.len] at p'
    exact p'.done sn (q.later s1)
theorem lc_readR {vs : List Nat} {i : Nat} {n : Nat} {ta : TA} {Q : VK} (out : Nat → List PyData) (h0 : out 0 = []) (hta : ∀ Q', tDA K S [.int (n : Int)] σ H Q' → ta σ H Q') (s : SA K S σ H) (q : Want K S (.list (out n)) H Q) (hz : ∀ k, k < n → (out k).length < sizeLine) (hn : n < 2 ^ 62) (hix : i ∈ vs)
    (hb : ∀ Hb D k, Stp S.os0 S.H0 Hb → k < n → ∃ b, GT (S.blk Hb D (out k) ((wipeS S.rho vs).set i (.dat (.int (k : Nat))))) b ∧ (b = true → ∃ y, GE (S.blk Hb D (out k) ((wipeS S.rho vs).set i (.dat (.int (k : Nat))))) y ∧ out (k + 1) = out k ++ [y]) ∧ (b = false → out (k + 1) = out k)) :
    tLc (iRng1 ta) ((Tg.nm i).g K) (tEt K GT) (tEl K GE) vs σ H Q := by
  refine hta _ ⟨s, fun us H1 s1 is => ?_⟩
  obtain ⟨v, rfl, iv⟩ := all1 is
  have sn := s.step s1
  refine ⟨n, by rw [i_int iv], by omega, by omega, fun D hD => lc_range (fun k H' => LcP K S σ vs H1 D (out k) H') (by rw [h0]; exact LcP.start sn hD) ?_ ?_⟩
  · intro k H' hk p'
    obtain ⟨b, gt, yes, no⟩ := hb (S.now H1) D k sn.nowStp (by omega)
    rw [Int.zero_add]
    exact p'.turn (t := .nm i) (d := .int (k : Nat)) (fun j hj => by rw [List.mem_singleton.mp hj]; exact hix) (.int _) rfl gt yes no (hz k (by omega))
  · intro H' p'
    rw [Int.toNat_natCast] at p'
    exact p'.done sn (q.later s1)
end

/-- typed: [g x for .. in xs if p x] -/
def outF {α : Type} (xs : List α) (p : α → Bool) (g : α → PyData) (k : Nat) : List PyData := ((xs.take k).filter p).map g
theorem outF_len {α : Type} (xs : List α) (p : α → Bool) (g : α → PyData) (k : Nat) : (outF xs p g k).length ≤ k := by
  unfold outF
  rw [List.length_map]
  exact Nat.le_trans (List.length_filter_le _ _) (by rw [List.length_take]; exact Nat.min_le_left _ _)
theorem outF_all {α : Type} (xs : List α) (p : α → Bool) (g : α → PyData) : outF xs p g xs.length = (xs.filter p).map g := by
  unfold outF
  rw [List.take_length]
theorem outF_yes {α : Type} {xs : List α} {p : α → Bool} {g : α → PyData} {k : Nat} {x : α} (h : xs[k]? = some x) (hp : p x = true) : outF xs p g (k + 1) = outF xs p g k ++ [g x] := by
  unfold outF
  rw [List.take_add_one, h, List.filter_append, List.map_append]
  simp [hp]
theorem outF_no {α : Type} {xs : List α} {p : α → Bool} {g : α → PyData} {k : Nat} {x : α} (h : xs[k]? = some x) (hp : p x = false) : outF xs p g (k + 1) = outF xs p g k := by
  unfold outF
  rw [List.take_add_one, h, List.filter_append, List.map_append]
  simp [hp]
section
variable {X : Cx} {S : SS} {pos : Pos} {D : Ends} {rest : List Stmt} {α : Type} {elt tg iter : Expr} {ifs : List Expr} {scope : Scope} {own : List (Str × Nat)}
/-- what is to be shown of a comprehension over typed items -/
def LcH (X : Cx) (S : SS) (scope : Scope) (vs : List Nat) (t : Tg) (elt : Expr) (ifs : List Expr) (xs : List α) (enc : α → PyData) (p : α → Bool) (g : α → PyData) : Prop :=
  ∀ (Hb : Hp) (Da : Addr) (acc : List PyData) (k : Nat) (x : α), Stp S.os0 S.H0 Hb → xs[k]? = some x → ∃ ρ', t.put (enc x) (wipeS S.rho vs) = some ρ' ∧
    (∀ s H C cl fp, VTs (X.blk s H scope (compEnvC scope cl C X.env) fp) (S.blk Hb Da acc ρ') ifs (p x)) ∧ (p x = true → ∀ s H C cl fp, VE (X.blk s H scope (compEnvC scope cl C X.env) fp) (S.blk Hb Da acc ρ') elt (g x))
theorem lch_read {vs : List Nat} {t : Tg} {xs : List α} {enc : α → PyData} {p : α → Bool} {g : α → PyData} {σ : L2.St} {H : Hp} {Q : VK} (h : LcH X S scope vs t elt ifs xs enc p g) (hl : xs.length ≤ 1000000) (hix : ∀ i ∈ t.ix, i ∈ vs) (s : SA X.K S σ H) (q : Want X.K S (.list ((xs.filter p).map g)) H Q) :
    tLc (iList X.K (tD X.K S (.list (xs.map enc)))) (t.g X.K) (tEt X.K fun S' b => ∀ s H C cl fp, VTs (X.blk s H scope (compEnvC scope cl C X.env) fp) S' ifs b) (tEl X.K fun S' y => ∀ s H C cl fp, VE (X.blk s H scope (compEnvC scope cl C X.env) fp) S' elt y) vs σ H Q := by
  refine lc_readL (outF xs p g) rfl s (by rw [List.length_map, outF_all]; exact q) (fun k hk => ?_) hix fun Hb Da k d hb hk => ?_
  · have := outF_len xs p g k
    rw [List.length_map] at hk
    have e : sizeLine = 16777216 := by decide
    omega
  · rw [List.getElem?_map] at hk
    cases e : xs[k]? with
    | none => rw [e] at hk; cases hk
    | some x =>
      rw [e] at hk
      cases hk
      obtain ⟨ρ', h1, h2, h3⟩ := h Hb Da (outF xs p g k) k x hb e
      exact ⟨ρ', p x, h1, h2, fun z => ⟨g x, h3 z, outF_yes e z⟩, fun z => outF_no e z⟩
theorem ve_lc (t : Tg) (xs : List α) (enc : α → PyData) (p : α → Bool) (g : α → PyData) (hi : VE X S iter (.list (xs.map enc))) (ok : BlkOk X.N X.env.scope scope own) (hg : ∀ (s : Shared) (H : Hp) (C : Addr) (cl : List (Str × Addr)) (fp : List Addr), PG (X.blk s H scope (compEnvC scope cl C X.env) fp) tg (t.g X.K))
    (hb : LcH X S scope (own.map (·.2)) t elt ifs xs enc p g) (hl : xs.length ≤ 1000000) (hc : X.calm = true) (hN : X.N.Nodup) (hix : ∀ i ∈ t.ix, i ∈ own.map (·.2)) (hs : ∀ x, foldedSetIterable iter X.env x = pure x := by intro _; rfl) :
    VE X S (.ListComp elt [⟨tg, iter, ifs, 0⟩] scope pos) (.list ((xs.filter p).map g)) :=
  PEimp (pe_lc hc hN (pi_list hi) ok hg (fun s H C cl fp => pts_el fun S' b z => z s H C cl fp) (fun s H C cl fp => pe_el fun S' y z => z s H C cl fp) hs) fun σ H Q ⟨s, q⟩ => lch_read hb hl hix s q
/-- y = [..] on one line -/
theorem gb_setLc (i : Nat) {y : Str} {py spos : Pos} {xs : List α} {enc : α → PyData} {p : α → Bool} {g : α → PyData} (t : Tg) (hi : VE X S iter (.list (xs.map enc))) (ok : BlkOk X.N X.env.scope scope own) (hg : ∀ (s : Shared) (H : Hp) (C : Addr) (cl : List (Str × Addr)) (fp : List Addr), PG (X.blk s H scope (compEnvC scope cl C X.env) fp) tg (t.g X.K))
    (hb : LcH X S scope (own.map (·.2)) t elt ifs xs enc p g) (hr : GB X (S.set i (.dat (.list ((xs.filter p).map g)))) rest D) (hl : xs.length ≤ 1000000) (hc : X.calm = true) (hN : X.N.Nodup) (hix : ∀ i ∈ t.ix, i ∈ own.map (·.2)) (hyl : X.env.scope.names.lookup y = some .local) (hy : X.N[i]? = some y := by rfl)
    (hsw : swapsWith (.ListComp elt [⟨tg, iter, ifs, 0⟩] scope pos) (some (.Name y py)) spos.line X.env = pure true := by exact sw_true rfl rfl rfl (by decide +kernel)) (hs : ∀ x, foldedSetIterable iter X.env x = pure x := by intro _; rfl) :
    GB X S (.Assign [.Name y py] (.ListComp elt [⟨tg, iter, ifs, 0⟩] scope pos) spos :: rest) D := fun σ H s =>
  run_cons (ps_setLc hc hN hy hyl hsw (pi_list hi) ok hg (fun s H C cl fp => pts_el fun S' b z => z s H C cl fp) (fun s H C cl fp => pe_el fun S' y z => z s H C cl fp) hs)
    (lch_read hb hl hix s fun v H1 s1 i1 => hr _ H1 ((s.step s1).set (sd := .dat _) ⟨v, rfl, i1⟩))
/-- over a range -/
def LcHR (X : Cx) (S : SS) (scope : Scope) (vs : List Nat) (i : Nat) (elt : Expr) (ifs : List Expr) (n : Nat) (p : Nat → Bool) (g : Nat → PyData) : Prop :=
  ∀ (Hb : Hp) (Da : Addr) (acc : List PyData) (k : Nat), Stp S.os0 S.H0 Hb → k < n → (∀ s H C cl fp, VTs (X.blk s H scope (compEnvC scope cl C X.env) fp) (S.blk Hb Da acc ((wipeS S.rho vs).set i (.dat (.int (k : Nat))))) ifs (p k)) ∧
    (p k = true → ∀ s H C cl fp, VE (X.blk s H scope (compEnvC scope cl C X.env) fp) (S.blk Hb Da acc ((wipeS S.rho vs).set i (.dat (.int (k : Nat))))) elt (g k))
theorem lchR_read {vs : List Nat} {i n : Nat} {p : Nat → Bool} {g : Nat → PyData} {σ : L2.St} {H : Hp} {Q : VK} (h : LcHR X S scope vs i elt ifs n p g) (hl : n ≤ 1000000) (hix : i ∈ vs) (s : SA X.K S σ H) (q : Want X.K S (.list (((List.range n).filter p).map g)) H Q) :
    tLc (iRng1 (tDA X.K S [.int (n : Int)])) ((Tg.nm i).g X.K) (tEt X.K fun S' b => ∀ s H C cl fp, VTs (X.blk s H scope (compEnvC scope cl C X.env) fp) S' ifs b) (tEl X.K fun S' y => ∀ s H C cl fp, VE (X.blk s H scope (compEnvC scope cl C X.env) fp) S' elt y) vs σ H Q := by
  have el : (List.range n).length = n := List.length_range
  refine lc_readR (outF (List.range n) p g) rfl (fun _ z => z) s (by have := outF_all (List.range n) p g; rw [el] at this; rw [this]; exact q) (fun k hk => ?_) (by omega) hix fun Hb Da k hb hk => ?_
  · have := outF_len (List.range n) p g k
    have e : sizeLine = 16777216 := by decide
    omega
  · obtain ⟨h2, h3⟩ := h Hb Da (outF (List.range n) p g k) k hb hk
    have e : (List.range n)[k]? = some k := by rw [List.getElem?_range hk]
    exact ⟨p k, h2, fun z => ⟨g k, h3 z, outF_yes e z⟩, fun z => outF_no e z⟩
theorem ve_lcR {a : Expr} {x : Str} {tp pr cp : Pos} (i n : Nat) (p : Nat → Bool) (g : Nat → PyData) (hm : X.mg "range" = none) (ha : VE X S a (.int (n : Int))) (ok : BlkOk X.N X.env.scope scope own) (hgt : ∀ (s : Shared) (H : Hp) (C : Addr) (cl : List (Str × Addr)) (fp : List Addr), PG (X.blk s H scope (compEnvC scope cl C X.env) fp) (.Name x tp) ((Tg.nm i).g X.K))
    (hb : LcHR X S scope (own.map (·.2)) i elt ifs n p g) (hl : n ≤ 1000000) (hc : X.calm = true) (hN : X.N.Nodup) (hix : i ∈ own.map (·.2)) (hg : Gl X "range" := by rfl) (hst : starEach [a] X.env = [(false, eval a X.env)] := by rfl) (hs : ∀ y, foldedSetIterable (.Call (.Name "range" pr) [a] [] cp) X.env y = pure y := by intro _; rfl) :
    VE X S (.ListComp elt [⟨.Name x tp, .Call (.Name "range" pr) [a] [] cp, ifs, 0⟩] scope pos) (.list (((List.range n).filter p).map g)) :=
  PEimp (pe_lc hc hN (pi_range1 hg hm (va_cons ha va_nil hst) hst) ok hgt (fun s H C cl fp => pts_el fun S' b z => z s H C cl fp) (fun s H C cl fp => pe_el fun S' y z => z s H C cl fp) hs) fun σ H Q ⟨s, q⟩ => lchR_read hb hl hix s q
theorem gb_setLcR (j : Nat) {y : Str} {py spos : Pos} {a : Expr} {x : Str} {tp pr cp : Pos} (i n : Nat) (p : Nat → Bool) (g : Nat → PyData) (hm : X.mg "range" = none) (ha : VE X S a (.int (n : Int))) (ok : BlkOk X.N X.env.scope scope own) (hgt : ∀ (s : Shared) (H : Hp) (C : Addr) (cl : List (Str × Addr)) (fp : List Addr), PG (X.blk s H scope (compEnvC scope cl C X.env) fp) (.Name x tp) ((Tg.nm i).g X.K))
    (hb : LcHR X S scope (own.map (·.2)) i elt ifs n p g) (hr : GB X (S.set j (.dat (.list (((List.range n).filter p).map g)))) rest D) (hl : n ≤ 1000000) (hc : X.calm = true) (hN : X.N.Nodup) (hix : i ∈ own.map (·.2)) (hyl : X.env.scope.names.lookup y = some .local) (hy : X.N[j]? = some y := by rfl)
    (hsw : swapsWith (.ListComp elt [⟨.Name x tp, .Call (.Name "range" pr) [a] [] cp, ifs, 0⟩] scope pos) (some (.Name y py)) spos.line X.env = pure true := by exact sw_true rfl rfl rfl (by decide +kernel))
    (hg : Gl X "range" := by rfl) (hst : starEach [a] X.env = [(false, eval a X.env)] := by rfl) (hs : ∀ y, foldedSetIterable (.Call (.Name "range" pr) [a] [] cp) X.env y = pure y := by intro _; rfl) :
    GB X S (.Assign [.Name y py] (.ListComp elt [⟨.Name x tp, .Call (.Name "range" pr) [a] [] cp, ifs, 0⟩] scope pos) spos :: rest) D := fun σ H s =>
  run_cons (ps_setLc hc hN hy hyl hsw (pi_range1 hg hm (va_cons ha va_nil hst) hst) ok hgt (fun s H C cl fp => pts_el fun S' b z => z s H C cl fp) (fun s H C cl fp => pe_el fun S' y z => z s H C cl fp) hs)
    (lchR_read hb hl hix s fun v H1 s1 i1 => hr _ H1 ((s.step s1).set (sd := .dat _) ⟨v, rfl, i1⟩))
end
end DL

namespace DL
open PySem PySem.Spec PyProof.Rows L2

section
variable {X : Cx} {S : SS} {e a b c o : Expr} {d d1 d2 d3 : PyData} {pos : Pos} {D : Ends} {rest : List Stmt}
/-! ### owned things are made -/
theorem gb_new {o : HO} {m : MO} {t : TE} (i : Nat) {x : Str} {pos' : Pos} (he : PE X e t) (ht : ∀ σ H Q, SA X.K S σ H → (∀ p, H p = none → Q (.ref p) (upd H p o)) → t σ H Q) (hm : ∀ Hh H p, MIs X.K Hh (upd H p o) p m)
    (hr : ∀ p, GB X ⟨S.H0, S.os0, (p, m) :: S.mu, S.rho.set i (.val (.ref p))⟩ rest D) (hN : X.N.Nodup) (hi : X.N[i]? = some x := by rfl) (hx : Loc X.env.scope x := by first | exact Or.inl rfl | exact Or.inr rfl)
    (hs : swapsWith e (some (.Name x pos')) pos.line X.env = pure false := by rfl) (hf : X.fn x = true ∨ X.env.scope.names.lookup x = some .local := by first | exact .inl rfl | exact .inr rfl | assumption) :
    GB X S (.Assign [.Name x pos'] e pos :: rest) D := fun σ H s =>
  run_cons (ps_set hN hi hx he hs hf) (ht σ H _ s fun p hp => hr p _ _ ((s.own (m := m) hp (hm _ _ _)).set (sd := .val (.ref p)) rfl))
theorem gb_newL (i : Nat) {x : Str} {pos' lp : Pos} (hr : ∀ p, GB X ⟨S.H0, S.os0, (p, .ml []) :: S.mu, S.rho.set i (.val (.ref p))⟩ rest D) (hN : X.N.Nodup) (hi : X.N[i]? = some x := by rfl) (hx : Loc X.env.scope x := by first | exact Or.inl rfl | exact Or.inr rfl)
    (hs : swapsWith (.List [] lp) (some (.Name x pos')) pos.line X.env = pure false := by rfl) (hf : X.fn x = true ∨ X.env.scope.names.lookup x = some .local := by first | exact .inl rfl | exact .inr rfl | assumption) :
    GB X S (.Assign [.Name x pos'] (.List [] lp) pos :: rest) D :=
  gb_new (m := .ml []) i (pe_lst pa_nil) (fun σ H Q s q => ⟨by decide, q⟩) (fun Hh H p => ⟨[], upd_same, .nil⟩) hr hN hi hx hs hf
theorem gb_newT (i : Nat) {x : Str} {pos' lp : Pos} (hr : ∀ p, GB X ⟨S.H0, S.os0, (p, .mT []) :: S.mu, S.rho.set i (.val (.ref p))⟩ rest D) (hN : X.N.Nodup) (hi : X.N[i]? = some x := by rfl) (hx : Loc X.env.scope x := by first | exact Or.inl rfl | exact Or.inr rfl)
    (hs : swapsWith (.Dict [] [] lp) (some (.Name x pos')) pos.line X.env = pure false := by rfl) (hf : X.fn x = true ∨ X.env.scope.names.lookup x = some .local := by first | exact .inl rfl | exact .inr rfl | assumption) :
    GB X S (.Assign [.Name x pos'] (.Dict [] [] lp) pos :: rest) D :=
  gb_new (m := .mT []) i pe_dnewT (fun σ H Q s q => q) (fun Hh H p => ⟨[], upd_same, .nil⟩) hr hN hi hx hs hf
theorem gb_newK (i : Nat) {x : Str} {pos' lp : Pos} (hr : ∀ p, GB X ⟨S.H0, S.os0, (p, .mK []) :: S.mu, S.rho.set i (.val (.ref p))⟩ rest D) (hN : X.N.Nodup) (hi : X.N[i]? = some x := by rfl) (hx : Loc X.env.scope x := by first | exact Or.inl rfl | exact Or.inr rfl)
    (hs : swapsWith (.Dict [] [] lp) (some (.Name x pos')) pos.line X.env = pure false := by rfl) (hf : X.fn x = true ∨ X.env.scope.names.lookup x = some .local := by first | exact .inl rfl | exact .inr rfl | assumption) :
    GB X S (.Assign [.Name x pos'] (.Dict [] [] lp) pos :: rest) D :=
  gb_new (m := .mK []) i pe_dnewK (fun σ H Q s q => q) (fun Hh H p => ⟨[], upd_same, .nil⟩) hr hN hi hx hs hf
/-- x = [a, ..], to be changed -/
theorem gb_newLs (i : Nat) {x : Str} {pos' lp : Pos} {es : List Expr} {ds : List PyData} (ha : VA X S es ds) (hr : ∀ p, GB X ⟨S.H0, S.os0, (p, .ml ds) :: S.mu, S.rho.set i (.val (.ref p))⟩ rest D) (hN : X.N.Nodup) (hl : Nat.ble ds.length 1000 = true := by rfl) (hi : X.N[i]? = some x := by rfl) (hx : Loc X.env.scope x := by first | exact Or.inl rfl | exact Or.inr rfl)
    (hs : swapsWith (.List es lp) (some (.Name x pos')) pos.line X.env = pure false := by rfl) (hf : X.fn x = true ∨ X.env.scope.names.lookup x = some .local := by first | exact .inl rfl | exact .inr rfl | assumption) :
    GB X S (.Assign [.Name x pos'] (.List es lp) pos :: rest) D := fun σ H s =>
  run_cons (ps_set hN hi hx (pe_lst ha) hs hf) ⟨s, fun vs H1 s1 is => ⟨by rw [is.len]; exact ble1000 hl, fun p hp => hr p _ _ (((s.step s1).own (m := .ml ds) hp ⟨vs, upd_same, is⟩).set (sd := .val (.ref p)) rfl)⟩⟩
/-! ### .. become data, are forgotten -/
theorem SA.less {K : PySem.W.Frag} {σ : L2.St} {H : Hp} (s : SA K S σ H) (j : Nat) : SA K ⟨S.H0, S.os0, S.mu.eraseIdx j, S.rho⟩ σ H := by
  have sub : ∀ q, q ∈ S.mu.eraseIdx j → q ∈ S.mu := fun q m => (List.eraseIdx_sublist S.mu j).subset m
  have sm : ((S.mu.eraseIdx j).map (·.1)).Sublist (S.mu.map (·.1)) := (List.eraseIdx_sublist S.mu j).map _
  have e : Ext (hid S.os H) (hid (SS.os ⟨S.H0, S.os0, S.mu.eraseIdx j, S.rho⟩) H) := hid_sub fun a m => by
    rcases List.mem_append.mp m with m | m
    · exact List.mem_append_left _ (sm.subset m)
    · exact List.mem_append_right _ m
  exact ⟨s.stp, s.dom, s.nd.sublist sm, fun a m => s.new a (sm.subset m), fun q m => (s.mok q (sub q m)).keep e fun _ z => z, s.env.mono e⟩
theorem SA.gone {K : PySem.W.Frag} {σ : L2.St} {H : Hp} (s : SA K S σ H) {j : Nat} {p : Addr} {m : MO} (hj : S.mu[j]? = some (p, m)) : p ∉ SS.os ⟨S.H0, S.os0, S.mu.eraseIdx j, S.rho⟩ := fun z => by
  have hm : p ∈ S.mu.map (·.1) := List.mem_map.mpr ⟨_, List.mem_of_getElem? hj, rfl⟩
  rcases List.mem_append.mp z with z | z
  · obtain ⟨q, hq, e⟩ := List.mem_map.mp z
    obtain ⟨k, hk⟩ := List.getElem?_of_mem hq
    rw [List.getElem?_eraseIdx] at hk
    have a1 : (S.mu.map (·.1))[j]? = some p := by rw [List.getElem?_map, hj]; rfl
    split at hk
    · have a2 : (S.mu.map (·.1))[k]? = some p := by rw [List.getElem?_map, hk]; exact congrArg some e
      have := nd_ix s.nd a1 a2
      omega
    · have a2 : (S.mu.map (·.1))[k + 1]? = some p := by rw [List.getElem?_map, hk]; exact congrArg some e
      have := nd_ix s.nd a1 a2
      omega
  · obtain ⟨o, h1, _⟩ := s.dom p z
    rw [s.new p hm] at h1
    cases h1
theorem EnvOk.putD {K : PySem.W.Frag} {H : Hp} {v : V} {d : PyData} (i : Is K H v d) : ∀ {σ : L2.St} {ρ : List SD} {k : Nat}, EnvOk K H σ ρ → σ[k]? = some (some v) → EnvOk K H σ (ρ.set k (.dat d))
  | _, _, _, .nil, _ => .nil
  | _, _, 0, .cons _ t, e => by
    simp at e
    exact .cons ⟨v, e, i⟩ t
  | _, _, k + 1, .cons q t, e => .cons q (t.putD i (k := k) (by simpa using e))
def MO.dat : MO → Option PyData
  | .ml ds => some (.list ds)
  | .mT l => some (.dict (kvE l))
  | _ => none
theorem SA.frz {K : PySem.W.Frag} {σ : L2.St} {H : Hp} (s : SA K S σ H) {i j : Nat} {p : Addr} {m : MO} (hj : S.mu[j]? = some (p, m)) (hi : S.rho[i]? = some (.val (.ref p))) (hd : m.dat = some d) : SA K ⟨S.H0, S.os0, S.mu.eraseIdx j, S.rho.set i (.dat d)⟩ σ H := by
  have sl := s.less j
  have g := s.gone hj
  have mk := s.mok _ (List.mem_of_getElem? hj)
  have e : Ext (hid S.os H) (hid (SS.os ⟨S.H0, S.os0, S.mu.eraseIdx j, S.rho⟩) H) := hid_sub fun a m => by
    rcases List.mem_append.mp m with m | m
    · exact List.mem_append_left _ (((List.eraseIdx_sublist S.mu j).map _).subset m)
    · exact List.mem_append_right _ m
  have is : Is K (hid (SS.os ⟨S.H0, S.os0, S.mu.eraseIdx j, S.rho⟩) H) (.ref p) d := by
    cases m with
    | ml ds =>
      cases hd
      obtain ⟨xs, h1, h2⟩ := mk
      exact .lst (SqL.of (by rw [hid_out g]; exact h1)) (h2.mono e)
    | mT l =>
      cases hd
      obtain ⟨xs, h1, h2⟩ := mk
      exact .dct (.inl (by rw [hid_out g]; exact h1)) (h2.mono e).kv
    | mK l => cases hd
    | mI C dx gs => cases hd
  exact ⟨sl.stp, sl.dom, sl.nd, sl.new, sl.mok, sl.env.putD is (s.env.val hi)⟩
/-- a thing in slot i, the j-th owned, is done with: it is told as a datum from here on -/
theorem gb_frz (i j : Nat) {p : Addr} {m : MO} {sts : List Stmt} (hj : S.mu[j]? = some (p, m)) (hi : S.rho[i]? = some (.val (.ref p))) (hd : m.dat = some d) (h : GB X ⟨S.H0, S.os0, S.mu.eraseIdx j, S.rho.set i (.dat d)⟩ sts D) : GB X S sts D := fun σ H s => h σ H (s.frz hj hi hd)
theorem gb_drop (j : Nat) {sts : List Stmt} (h : GB X ⟨S.H0, S.os0, S.mu.eraseIdx j, S.rho⟩ sts D) : GB X S sts D := fun σ H s => h σ H (s.less j)
theorem gb_weak {ρ : List SD} {sts : List Stmt} (hw : Weak S.rho ρ) (h : GB X ⟨S.H0, S.os0, S.mu, ρ⟩ sts D) : GB X S sts D := fun σ H s => h σ H (s.weak hw)
/-! ### .. change -/
theorem gb_app (i j : Nat) {x : Str} {np ap cp : Pos} {p : Addr} {ds : List PyData} (hi : S.rho[i]? = some (.val (.ref p))) (hj : S.mu[j]? = some (p, .ml ds)) (he : VE X S e d) (hz : ds.length ≤ 1000000) (hr : GB X ⟨S.H0, S.os0, S.mu.set j (p, .ml (ds ++ [d])), S.rho⟩ rest D)
    (hN : X.N[i]? = some x := by rfl) (hv : Vis X.env.scope x := by first | exact Or.inl rfl | exact Or.inr (Or.inl rfl) | exact Or.inr (Or.inr rfl)) (h1 : (x == ("__debug__" : Str)) = false := by decide) (h2 : (x == ("__classdict__" : Str)) = false := by decide)
    (hpe : ∀ t, PE X e t → PE X (.Call (.Attribute (.Name x np) "append" ap) [e] [] cp) (tBM X.K "list" rAppend (tVar i) (tCons t tNil)) := by
      exact fun t ht => pe_bm PySem.F.plainAttrs_list PySem.F.slot_list_append PySem.F.type_list_append mt_append (pv _) (pa_cons ht pa_nil)) (hs : swapsWith (.Call (.Attribute (.Name x np) "append" ap) [e] [] cp) none pos.line X.env = pure false := by rfl) :
    GB X S (.Expr (.Call (.Attribute (.Name x np) "append" ap) [e] [] cp) pos :: rest) D := fun σ H s => by
  refine run_cons (ps_expr (hpe _ he) hs) ?_
  obtain ⟨xs, m1, m2⟩ := s.mok _ (List.mem_of_getElem? hj)
  refine ⟨.ref p, s.env.val hi, Or.inl ⟨rfl, xs, SqL.of m1⟩, s, fun v H1 s1 i1 => ?_⟩
  have sn := s.step s1
  obtain ⟨xs', n1, n2⟩ := sn.mok _ (List.mem_of_getElem? hj)
  refine ⟨p, xs', v, rfl, rfl, n1, ?_, hr _ _ (sn.mut hj ⟨xs' ++ [v], upd_same, n2.app (.cons i1 .nil)⟩)⟩
  rw [n2.len]
  have e : sizeLine = 16777216 := by decide
  omega
/-- d[a, b] = v, keys pairs of ints -/
theorem gb_dputT (i j : Nat) {x : Str} {np sp : Pos} {key : Expr} {p : Addr} {k : Int × Int} {l : List ((Int × Int) × PyData)} (hu : X.A.units + 1 < cLine) (hi : S.rho[i]? = some (.val (.ref p))) (hj : S.mu[j]? = some (p, .mT l)) (hk : VE X S key (stD k)) (he : VE X S e d) (hz : l.length ≤ 1000000)
    (hr : GB X ⟨S.H0, S.os0, S.mu.set j (p, .mT (put l k d)), S.rho⟩ rest D) (hN : X.N[i]? = some x := by rfl) (hv : Vis X.env.scope x := by first | exact Or.inl rfl | exact Or.inr (Or.inl rfl) | exact Or.inr (Or.inr rfl)) (h1 : (x == ("__debug__" : Str)) = false := by decide) (h2 : (x == ("__classdict__" : Str)) = false := by decide)
    (hs : swapsWith e (some (.Subscript (.Name x np) key sp)) pos.line X.env = pure false := by rfl) : GB X S (.Assign [.Subscript (.Name x np) key sp] e pos :: rest) D := fun σ H s => by
  refine run_cons (ps_dput hu (pv i hN hv h1 h2) hk he hs) ⟨s, fun v H1 s1 i1 => ⟨_, (s.step s1).env.val hi, s.step s1, fun kv H2 s2 i2 => ?_⟩⟩
  have sn := (s.step s1).step s2
  obtain ⟨q, rfl, hq⟩ := i_key i2
  have hq := (hid_some hq).2
  obtain ⟨kvs, n1, n2⟩ := sn.mok _ (List.mem_of_getElem? hj)
  have hl : kvs.length < sizeLine := by
    rw [n2.len]
    have e : sizeLine = 16777216 := by decide
    omega
  refine ⟨p, _, rfl, DPut.t (k := kT k) n1 hq hl, hr _ _ (sn.mut hj ⟨_, upd_same, n2.put kT_inj k (i1.mono s2.ext.hid)⟩)⟩
end
end DL

namespace DL
open PySem PySem.Spec PyProof.Rows L2

section
variable {X : Cx} {S : SS} {e a b c o : Expr} {d d1 d2 d3 : PyData} {pos : Pos} {D : Ends} {rest : List Stmt}
/-! ### tables are read -/
theorem getT {K : PySem.W.Frag} {H : Hp} {p q : Addr} {kvs : List (List Key × V)} {k : Int × Int} (h : Rd H p (.dT kvs)) (hq : H q = some (.tup [.int k.1, .int k.2])) : DGet H p (.ref q) (valV kvs (kT k)) := .inr ⟨kvs, kT k, q, h, rfl, hq, rfl⟩
theorem ve_dget {l : List ((Int × Int) × PyData)} {k : Int × Int} (hu : X.A.units + 1 < cLine) (ho : VE X S o (.dict (kvE l))) (hk : VE X S a (stD k)) (hl : look l k = some d) (hs : NoSl a := by exact fun _ _ => rfl) : VE X S (.Subscript o a pos) d :=
  PEimp (pe_dget hu ho hk hs) fun σ H Q ⟨s, q⟩ => ⟨s, fun v1 H1 s1 i1 => ⟨s.step s1, fun v2 H2 s2 i2 => by
    obtain ⟨p, kvs, rfl, h1, h2⟩ := i_dct (i1.mono s2.ext.hid)
    obtain ⟨t, rfl, h3⟩ := i_key i2
    rcases h2.look kT_inj k with ⟨n1, _⟩ | ⟨v, d', e1, e2, i3⟩
    · rw [hl] at n1; cases n1
    · rw [hl] at e1; cases e1
      refine ⟨p, v, rfl, ?_, q v H2 (s1.trans s2) i3⟩
      rw [← e2]
      exact getT (K := X.K) (hid_ext.rdT h1) (hid_some h3).2⟩⟩
/-- d.get(k, x) of an owned table -/
theorem ve_dgetT (i j : Nat) {x : Str} {np ap cp : Pos} {p : Addr} {l : List ((Int × Int) × PyData)} {k : Int × Int} (hu : X.A.units + 1 < cLine) (hi : S.rho[i]? = some (.val (.ref p))) (hj : S.mu[j]? = some (p, .mT l)) (hk : VE X S a (stD k)) (hb : VE X S b d) (hN : X.N[i]? = some x := by rfl)
    (hv : Vis X.env.scope x := by first | exact Or.inl rfl | exact Or.inr (Or.inl rfl) | exact Or.inr (Or.inr rfl)) (h1 : (x == ("__debug__" : Str)) = false := by decide) (h2 : (x == ("__classdict__" : Str)) = false := by decide) (m : M2 X (.Name x np) "get" ap a b cp := by exact ⟨by rfl, by rfl, by rfl, by rfl⟩) :
    VE X S (.Call (.Attribute (.Name x np) "get" ap) [a, b] [] cp) ((look l k).getD d) :=
  PEimp (pe_dget2 hu (pv i hN hv h1 h2) hk hb m) fun σ H Q ⟨s, q⟩ => by
    obtain ⟨kvs, m1, m2⟩ := s.mok _ (List.mem_of_getElem? hj)
    refine ⟨_, s.env.val hi, p, rfl, .inr ⟨kvs, .inl m1⟩, s, fun v1 H1 s1 i1 => ⟨s.step s1, fun v2 H2 s2 i2 => ?_⟩⟩
    have sn := (s.step s1).step s2
    obtain ⟨kvs', n1, n2⟩ := sn.mok _ (List.mem_of_getElem? hj)
    obtain ⟨t, rfl, h3⟩ := i_key (i1.mono s2.ext.hid)
    refine ⟨_, getT (K := X.K) (.inl n1) (hid_some h3).2, ?_⟩
    rcases n2.look kT_inj k with ⟨e1, e2⟩ | ⟨v, d', e1, e2, i3⟩
    · rw [e1] at q
      rw [e2]
      exact q v2 H2 (s1.trans s2) i2
    · rw [e1] at q
      rw [e2]
      exact q v H2 (s1.trans s2) i3
theorem ve_dgetK (i j : Nat) {x : Str} {np ap cp : Pos} {p : Addr} {l : List (Int × PyData)} {k : Int} (hu : X.A.units + 1 < cLine) (hi : S.rho[i]? = some (.val (.ref p))) (hj : S.mu[j]? = some (p, .mK l)) (hk : VE X S a (.int k)) (hb : VE X S b d) (hN : X.N[i]? = some x := by rfl)
    (hv : Vis X.env.scope x := by first | exact Or.inl rfl | exact Or.inr (Or.inl rfl) | exact Or.inr (Or.inr rfl)) (h1 : (x == ("__debug__" : Str)) = false := by decide) (h2 : (x == ("__classdict__" : Str)) = false := by decide) (m : M2 X (.Name x np) "get" ap a b cp := by exact ⟨by rfl, by rfl, by rfl, by rfl⟩) :
    VE X S (.Call (.Attribute (.Name x np) "get" ap) [a, b] [] cp) ((look l k).getD d) :=
  PEimp (pe_dget2 hu (pv i hN hv h1 h2) hk hb m) fun σ H Q ⟨s, q⟩ => by
    obtain ⟨kvs, m1, m2⟩ := s.mok _ (List.mem_of_getElem? hj)
    refine ⟨_, s.env.val hi, p, rfl, .inl ⟨kvs, .inl m1⟩, s, fun v1 H1 s1 i1 => ⟨s.step s1, fun v2 H2 s2 i2 => ?_⟩⟩
    have sn := (s.step s1).step s2
    obtain ⟨kvs', n1, n2⟩ := sn.mok _ (List.mem_of_getElem? hj)
    rw [i_int (i1.mono s2.ext.hid)]
    refine ⟨_, DGet.k (k := kI k) n1, ?_⟩
    rcases n2.look kI_inj k with ⟨e1, e2⟩ | ⟨v, d', e1, e2, i3⟩
    · rw [e1] at q
      rw [e2]
      exact q v2 H2 (s1.trans s2) i2
    · rw [e1] at q
      rw [e2]
      exact q v H2 (s1.trans s2) i3
/-- d[k] of an owned table with int keys -/
theorem ve_dixK (i j : Nat) {x : Str} {np : Pos} {p : Addr} {l : List (Int × PyData)} {k : Int} (hu : X.A.units + 1 < cLine) (hi : S.rho[i]? = some (.val (.ref p))) (hj : S.mu[j]? = some (p, .mK l)) (hk : VE X S a (.int k)) (hl : look l k = some d) (hN : X.N[i]? = some x := by rfl)
    (hv : Vis X.env.scope x := by first | exact Or.inl rfl | exact Or.inr (Or.inl rfl) | exact Or.inr (Or.inr rfl)) (h1 : (x == ("__debug__" : Str)) = false := by decide) (h2 : (x == ("__classdict__" : Str)) = false := by decide) (hs : NoSl a := by exact fun _ _ => rfl) : VE X S (.Subscript (.Name x np) a pos) d :=
  PEimp (pe_dget hu (pv i hN hv h1 h2) hk hs) fun σ H Q ⟨s, q⟩ => ⟨_, s.env.val hi, s, fun v1 H1 s1 i1 => by
    obtain ⟨kvs', n1, n2⟩ := (s.step s1).mok _ (List.mem_of_getElem? hj)
    rw [i_int i1]
    rcases n2.look kI_inj k with ⟨e1, e2⟩ | ⟨v, d', e1, e2, i3⟩
    · rw [hl] at e1; cases e1
    · rw [hl] at e1; cases e1
      refine ⟨p, v, rfl, ?_, q v H1 s1 i3⟩
      rw [← e2]
      exact DGet.k (k := kI k) n1⟩
/-- d[k] = v, keys ints -/
theorem gb_dputK (i j : Nat) {x : Str} {np sp : Pos} {key : Expr} {p : Addr} {k : Int} {l : List (Int × PyData)} (hu : X.A.units + 1 < cLine) (hi : S.rho[i]? = some (.val (.ref p))) (hj : S.mu[j]? = some (p, .mK l)) (hk : VE X S key (.int k)) (he : VE X S e d) (hz : l.length ≤ 1000000)
    (hr : GB X ⟨S.H0, S.os0, S.mu.set j (p, .mK (put l k d)), S.rho⟩ rest D) (hN : X.N[i]? = some x := by rfl) (hv : Vis X.env.scope x := by first | exact Or.inl rfl | exact Or.inr (Or.inl rfl) | exact Or.inr (Or.inr rfl)) (h1 : (x == ("__debug__" : Str)) = false := by decide) (h2 : (x == ("__classdict__" : Str)) = false := by decide)
    (hs : swapsWith e (some (.Subscript (.Name x np) key sp)) pos.line X.env = pure false := by rfl) : GB X S (.Assign [.Subscript (.Name x np) key sp] e pos :: rest) D := fun σ H s => by
  refine run_cons (ps_dput hu (pv i hN hv h1 h2) hk he hs) ⟨s, fun v H1 s1 i1 => ⟨_, (s.step s1).env.val hi, s.step s1, fun kv H2 s2 i2 => ?_⟩⟩
  have sn := (s.step s1).step s2
  obtain ⟨kvs, n1, n2⟩ := sn.mok _ (List.mem_of_getElem? hj)
  have hl : kvs.length < sizeLine := by
    rw [n2.len]
    have e : sizeLine = 16777216 := by decide
    omega
  rw [i_int i2]
  refine ⟨p, _, rfl, DPut.k (k := kI k) n1 hl, hr _ _ (sn.mut hj ⟨_, upd_same, n2.put kI_inj k (i1.mono s2.ext.hid)⟩)⟩
/-- len of an owned table -/
theorem ve_lenM (i j : Nat) {x : Str} {np p2 : Pos} {p : Addr} {l : List ((Int × Int) × PyData)} (hm : X.mg "len" = none) (hi : S.rho[i]? = some (.val (.ref p))) (hj : S.mu[j]? = some (p, .mT l)) (hN : X.N[i]? = some x := by rfl)
    (hv : Vis X.env.scope x := by first | exact Or.inl rfl | exact Or.inr (Or.inl rfl) | exact Or.inr (Or.inr rfl)) (h1 : (x == ("__debug__" : Str)) = false := by decide) (h2 : (x == ("__classdict__" : Str)) = false := by decide) (hg : Gl X "len" := by rfl) (he : starEach [.Name x np] X.env = [(false, eval (.Name x np) X.env)] := by rfl) :
    VE X S (.Call (.Name "len" p2) [.Name x np] [] pos) (.int l.length) :=
  PEimp (pe_callB call_len_dT hg hm PySem.boot_len (pa_cons (pv i hN hv h1 h2) pa_nil he) (by decide) (by decide) he rfl) fun σ H Q ⟨s, q⟩ => by
    obtain ⟨kvs, m1, m2⟩ := s.mok _ (List.mem_of_getElem? hj)
    refine ⟨_, s.env.val hi, p, kvs, rfl, m1, ?_⟩
    rw [m2.len]
    exact q _ H (Stp.refl H) (.int _)
/-- return, with the whole state -/
theorem gb_ret' (he : VE X S e d) (hD : ∀ σ v H', SA X.K S σ H' → Is X.K (hid S.os H') v d → D.rt v H') : GB X S (.Return (some e) pos :: rest) D := fun σ H s =>
  run_cons (ps_ret he) ⟨s, fun v H1 s1 i1 => hD σ v H1 (s.step s1) i1⟩
end
/-! ### instances of the one class -/
/-- an instance at p of the class C with the fields hs, pl, ch and a count n -/
def SpanAt (K : PySem.W.Frag) (C : Addr) (H : Hp) (os : List Addr) (p : Addr) (n : Int) (hs pl ch : PyData) : Prop :=
  ∃ dx vh vp vc, H p = some (.ins C dx (fs4 vh vp vc n)) ∧ Is K (hid os H) vh hs ∧ Is K (hid os H) vp pl ∧ Is K (hid os H) vc ch
theorem SpanAt.ext {K : PySem.W.Frag} {C : Addr} {H H' : Hp} {os os' : List Addr} {p : Addr} {n : Int} {hs pl ch : PyData} (h : SpanAt K C H os p n hs pl ch) (e : Ext H H') (e2 : Ext (hid os H) (hid os' H')) : ∃ n', SpanAt K C H' os' p n' hs pl ch := by
  obtain ⟨dx, vh, vp, vc, h1, i1, i2, i3⟩ := h
  obtain ⟨u, q, r⟩ := e p _ h1
  have j1 := i1.mono e2
  have j2 := i2.mono e2
  have j3 := i3.mono e2
  rcases r with rfl | ⟨_, _, z, _⟩ | ⟨C2, dx2, vh2, vp2, vc2, n2, n3, z, rfl⟩
  · exact ⟨n, dx, vh, vp, vc, q, j1, j2, j3⟩
  · cases z
  · injection z with z1 z2 z3
    subst z1 z2
    injection z3 with z4 z5
    injection z5 with z5 z6
    injection z6 with z6 _
    injection z4 with _ z4
    injection z5 with _ z5
    injection z6 with _ z6
    subst z4 z5 z6
    exact ⟨n3, dx, vh, vp, vc, q, j1, j2, j3⟩
/-- in every state of S the instance is there -/
def SpIn (K : PySem.W.Frag) (C : Addr) (S : SS) (p : Addr) (hs pl ch : PyData) : Prop := ∃ n, SpanAt K C S.H0 S.os0 p n hs pl ch
theorem SpIn.at {K : PySem.W.Frag} {C : Addr} {S : SS} {p : Addr} {hs pl ch : PyData} (h : SpIn K C S p hs pl ch) {σ : L2.St} {H : Hp} (s : SA K S σ H) : ∃ n, SpanAt K C H S.os p n hs pl ch := by
  obtain ⟨n, h⟩ := h
  exact h.ext s.stp.ext s.base
theorem SpIn.stp {K : PySem.W.Frag} {C : Addr} {S : SS} {p : Addr} {hs pl ch : PyData} (h : SpIn K C S p hs pl ch) {Hb : Hp} (st : Stp S.os0 S.H0 Hb) {mu : List (Addr × MO)} {rho : List SD} : SpIn K C ⟨Hb, S.os0, mu, rho⟩ p hs pl ch := by
  obtain ⟨n, h⟩ := h
  exact h.ext st.ext st.ext.hid
theorem SpIn.same {K : PySem.W.Frag} {C : Addr} {S : SS} {p : Addr} {hs pl ch : PyData} (h : SpIn K C S p hs pl ch) {mu : List (Addr × MO)} {rho : List SD} : SpIn K C ⟨S.H0, S.os0, mu, rho⟩ p hs pl ch := h
/-- a method by data -/
def spM (K : PySem.W.Frag) (C : Addr) (R : Int → PyData → PyData → PyData → List PyData → PyData → Prop) : Sp := fun vs H Q _ => ∃ (os : List Addr) (p : Addr) (n : Int) (hs pl ch : PyData) (vs' : List V) (ds : List PyData) (d : PyData), vs = .ref p :: vs' ∧
  (∀ a ∈ os, ∃ o, H a = some o ∧ NT o) ∧ SpanAt K C H os p n hs pl ch ∧ IsAll K (hid os H) vs' ds ∧ R n hs pl ch ds d ∧ ∀ v H', Stp os H H' → Is K (hid os H') v d → Q v H'
structure DM (P : Program) (w : World) (K : PySem.W.Frag) (mg : Str → Option Value) (base : Heap) (C : Addr) (m : Str) (k : Nat) (R : Int → PyData → PyData → PyData → List PyData → PyData → Prop) : Prop where
  ex : ∃ f fd ps, Meth K C m f ∧ Binds K fd ps [] ∧ FnOk P w K mg base CX0 k f fd ps (spM K C R)
  nm : (fs4 .non .non .non 0).lookup m = none
theorem fs4_none {m : Str} {vh vp vc : V} {n : Int} (h : (fs4 .non .non .non 0).lookup m = none) : (fs4 vh vp vc n).lookup m = none := by
  unfold fs4 at h ⊢
  repeat rw [List.lookup_cons] at h
  repeat rw [List.lookup_cons]
  cases e1 : m == ("house" : Str) with
  | true => rw [e1] at h; cases h
  | false =>
    rw [e1] at h
    cases e2 : m == ("plan" : Str) with
    | true => rw [e2] at h; cases h
    | false =>
      rw [e2] at h
      cases e3 : m == ("changes" : Str) with
      | true => rw [e3] at h; cases h
      | false =>
        rw [e3] at h
        cases e4 : m == ("count" : Str) with
        | true => rw [e4] at h; cases h
        | false => rfl
theorem lk_house {vh vp vc : V} {n : Int} : (fs4 vh vp vc n).lookup ("house" : Str) = some vh := by
  unfold fs4
  rw [List.lookup_cons]
  simp
theorem lk_plan {vh vp vc : V} {n : Int} : (fs4 vh vp vc n).lookup ("plan" : Str) = some vp := by
  unfold fs4
  rw [List.lookup_cons, show (("plan" : Str) == "house") = false by decide +kernel]
  show List.lookup _ _ = _
  rw [List.lookup_cons]
  simp
theorem lk_changes {vh vp vc : V} {n : Int} : (fs4 vh vp vc n).lookup ("changes" : Str) = some vc := by
  unfold fs4
  rw [List.lookup_cons, show (("changes" : Str) == "house") = false by decide +kernel]
  show List.lookup _ _ = _
  rw [List.lookup_cons, show (("changes" : Str) == "plan") = false by decide +kernel]
  show List.lookup _ _ = _
  rw [List.lookup_cons]
  simp
theorem lk_count {vh vp vc : V} {n : Int} : (fs4 vh vp vc n).lookup ("count" : Str) = some (V.int n) := by
  unfold fs4
  rw [List.lookup_cons, show (("count" : Str) == "house") = false by decide +kernel]
  show List.lookup _ _ = _
  rw [List.lookup_cons, show (("count" : Str) == "plan") = false by decide +kernel]
  show List.lookup _ _ = _
  rw [List.lookup_cons, show (("count" : Str) == "changes") = false by decide +kernel]
  show List.lookup _ _ = _
  rw [List.lookup_cons]
  simp
section
variable {X : Cx} {S : SS} {e a b c o : Expr} {d d1 d2 d3 : PyData} {pos : Pos} {D : Ends} {rest : List Stmt} {p C : Addr} {hs pl ch : PyData}
/-- self.house, self.plan, self.changes -/
theorem ve_house (ho : VV X S o (.ref p)) (hI : SpIn X.K C S p hs pl ch) (hc : Cls X.K C) (hn : NoAttr X.K C "house") (hb : attributeBase o "house" X.env (eval o X.env) = eval o X.env := by rfl) : VE X S (.Attribute o "house" pos) hs :=
  PEimp (pe_fld ho hb) fun σ H Q ⟨s, q⟩ => ⟨s, fun H1 s1 => by
    obtain ⟨n, dx, vh, vp, vc, h1, i1, i2, i3⟩ := hI.at (s.step s1)
    exact ⟨p, C, dx, _, vh, rfl, h1, hc, hn, lk_house, q _ H1 s1 i1⟩⟩
theorem ve_plan (ho : VV X S o (.ref p)) (hI : SpIn X.K C S p hs pl ch) (hc : Cls X.K C) (hn : NoAttr X.K C "plan") (hb : attributeBase o "plan" X.env (eval o X.env) = eval o X.env := by rfl) : VE X S (.Attribute o "plan" pos) pl :=
  PEimp (pe_fld ho hb) fun σ H Q ⟨s, q⟩ => ⟨s, fun H1 s1 => by
    obtain ⟨n, dx, vh, vp, vc, h1, i1, i2, i3⟩ := hI.at (s.step s1)
    exact ⟨p, C, dx, _, vp, rfl, h1, hc, hn, lk_plan, q _ H1 s1 i2⟩⟩
theorem ve_changes (ho : VV X S o (.ref p)) (hI : SpIn X.K C S p hs pl ch) (hc : Cls X.K C) (hn : NoAttr X.K C "changes") (hb : attributeBase o "changes" X.env (eval o X.env) = eval o X.env := by rfl) : VE X S (.Attribute o "changes" pos) ch :=
  PEimp (pe_fld ho hb) fun σ H Q ⟨s, q⟩ => ⟨s, fun H1 s1 => by
    obtain ⟨n, dx, vh, vp, vc, h1, i1, i2, i3⟩ := hI.at (s.step s1)
    exact ⟨p, C, dx, _, vc, rfl, h1, hc, hn, lk_changes, q _ H1 s1 i3⟩⟩
/-- o.m(e, ..) -/
theorem ve_meth {m : Str} {apos : Pos} {es : List Expr} {ds : List PyData} {k : Nat} {R : Int → PyData → PyData → PyData → List PyData → PyData → Prop} {pl' : Sem Bool} (F : DM X.prog X.w X.K X.mg X.base C m k R) (hr : Room k X.A) (ho : VV X S o (.ref p)) (hI : SpIn X.K C S p hs pl ch) (hc : Cls X.K C)
    (ha : VA X S (e :: es) ds) (hR : ∀ n, R n hs pl ch ds d) (hst : starEach (e :: es) X.env = (false, eval e X.env) :: starEach es X.env := by rfl) (hpl : (backTo pos (starEach es X.env)).any (·.1) = false := by rfl)
    (ht : eval (.Call (.Attribute o m apos) (e :: es) [] pos) X.env = (do
      let ov ← eval o X.env
      standAt apos.atName
      let (f, first) ← holding [ov] (getMethod ov m pl')
      callWith pos f first (backTo pos (starEach (e :: es) X.env)) (backToKw pos (keywordEach [] X.env))) := by rfl) : VE X S (.Call (.Attribute o m apos) (e :: es) [] pos) d := by
  obtain ⟨f, fd, ps, h1, h2, h3⟩ := F.ex
  refine PEimp (pe_meth (E := E0) (pl := pl') ho hc h1 h3 hr h2 .nil pass0 ha hst hpl ht) fun σ H Q ⟨s, q⟩ => ⟨s, fun H1 s1 => ?_⟩
  obtain ⟨n, dx, vh, vp, vc, g1, _⟩ := hI.at (s.step s1)
  refine ⟨p, dx, _, rfl, g1, fs4_none F.nm, s.step s1, fun vs H2 s2 is => ?_⟩
  obtain ⟨n2, g2⟩ := hI.at ((s.step s1).step s2)
  show spM X.K C R (.ref p :: (vs ++ [])) H2 Q E0
  rw [List.append_nil]
  exact ⟨S.os, p, n2, hs, pl, ch, vs, ds, d, rfl, ((s.step s1).step s2).nt, g2, is, hR n2, fun v H' s3 i => q v H' ((s1.trans s2).trans s3) i⟩
end
/-- a method that leaves its instance as it is -/
theorem dm_mk {P : Program} {w : World} {K : PySem.W.Frag} {mg : Str → Option Value} {base : Heap} {C : Addr} {m qual : Str} {st : Stmt} {f : Addr} {fd : FuncData} {N ps : List Str} {k : Nat} {R : Int → PyData → PyData → PyData → List PyData → PyData → Prop} (hm : Meth K C m f) (F : Fun K m qual st f fd)
    (S : FnScope N ps (defScope st)) (hb : Binds K fd ps []) (nm : (fs4 .non .non .non 0).lookup m = none) (hlen : ∀ n hs pl ch ds d, R n hs pl ch ds d → ds.length + 1 = ps.length)
    (hbody : ∀ (cdv : Value) (A : Around) (outer : List Env) (s : Shared) (H : Hp) (E : XK) (os : List Addr) (p : Addr) (n : Int) (hs pl ch : PyData) (ds : List PyData) (d : PyData), Room k (A.deeper (envOfC qual (defScope st) s.heap.objs.size f cdv)) → R n hs pl ch ds d → SpanAt K C H os p n hs pl ch →
      (∀ a ∈ os, ∃ o, H a = some o ∧ NT o) → ∀ σ, SA K ⟨H, os, [], .val (.ref p) :: (ds.map SD.dat ++ List.replicate (N.length - (ds.length + 1)) SD.any)⟩ σ H →
      RUN (cxOf CX0 P w K mg base N qual (defScope st) f cdv A outer s H E).nox (defBody st) (DR K H os d) σ H) :
    DM P w K mg base C m (k + 1) R := by
  have hl : ∀ vs H Q E, spM K C R vs H Q E → vs.length = ps.length := fun vs H Q E ⟨os, p, n, hs, pl, ch, vs', ds, d, e, _, _, h1, h2, _⟩ => by
    rw [e, List.length_cons, h1.len]
    exact hlen _ _ _ _ ds d h2
  refine ⟨⟨f, fd, ps, hm, hb, F.ok S hl fun cdv A outer s H vs Q E hr h => ?_⟩, nm⟩
  obtain ⟨os, p, n, hs, pl, ch, vs', ds, d, rfl, ho, hsp, h1, h2, q⟩ := h
  have sa : SA K ⟨H, os, [], .val (.ref p) :: (ds.map SD.dat ++ List.replicate (N.length - (ds.length + 1)) SD.any)⟩ (L2.start N (.ref p :: vs')) H := by
    refine ⟨Stp.refl H, ho, List.nodup_nil, fun _ m => absurd m (by simp), fun _ m => absurd m (by simp), ?_⟩
    unfold L2.start
    rw [List.length_cons, h1.len, List.map_cons, List.cons_append]
    exact .cons rfl (env_start _ h1)
  have g := hbody cdv A outer s H E os p n hs pl ch ds d hr h2 hsp ho _ sa
  refine ⟨fun D σ H' => RUN (cxOf CX0 P w K mg base N qual (defScope st) f cdv A outer s H E).nox (defBody st) D σ H', pss_run, ?_⟩
  refine RUN.mono g (fun σ H' z => ?_) (fun v H' z => q v H' z.1 z.2) (fun _ _ z => z.elim) fun _ _ z => z.elim
  obtain ⟨rfl, z⟩ := z
  exact q _ H' z .non
end DL

namespace DL
open PySem PySem.Spec PyProof.Rows L2

/-! ### for over a table's keys: the table is locked for good -/
def iKeysR (td : TE) : TI := fun σ H R => td σ H fun x H1 => ∃ d kvs, x = .ref d ∧ ((∃ o, H1 d = some (.frz o (.dT kvs)) ∧ R (Itkt d o kvs) H1) ∨ (H1 d = some (.dT kvs) ∧ ∀ o, R (Itkt d o kvs) (upd H1 d (.frz o (.dT kvs)))))
theorem pi_keysR {X : Cx} {tg e : Expr} {td : TE} (he : PE X e td) : PI X tg e (iKeysR td) := by
  refine ⟨fun pins s σ H R I h => ?_⟩
  refine thn (he.run pins s σ H _ I h) fun u s1 ⟨x, H1, I1, rx, d, kvs, ex, q⟩ => ?_
  subst ex
  obtain rfl : u = Value.ref d := rx
  have go : ∀ {H2 : Hp} {o : Obj}, Inv X pins σ H2 s1 → H2 d = some (.frz o (.dT kvs)) → R (Itkt d o kvs) H2 → wpAny (model X.prog X.w) X.A (pyIter (.ref d)) (PIE X pins σ tg R) X.xe s1 := fun {H2 o} I2 hd q2 => by
    obtain ⟨hs, hgd, hx, es, ep, hdt, hsz, ent⟩ := I2.frzT hd
    refine iter_keys hs hgd hx hdt (pi_one (tk := s1.toks) I2 _ (turn_keysT _ hdt) ⟨_, Heap.get?_push_size _ rfl, rfl, ?_⟩ q2)
    rw [hsz] <;> rfl
  rcases q with ⟨o, hd, q⟩ | ⟨hd, q⟩
  · exact go I1 hd q
  · obtain ⟨od, I2⟩ := I1.lock hd trivial
    exact go I2 upd_same (q od)
theorem Stp.lock {os : List Addr} {H : Hp} {d : Addr} {kvs : List (List Key × V)} {o : Obj} (h : H d = some (.dT kvs)) (n : d ∉ os) : Stp os H (upd H d (.frz o (.dT kvs))) :=
  ⟨fun a u e => by
    by_cases z : a = d
    · subst z
      rw [h] at e
      cases e
      exact ⟨_, upd_same, .inr (.inl ⟨kvs, o, rfl, rfl⟩)⟩
    · exact ⟨u, by rw [upd_ne z]; exact e, .inl rfl⟩, fun a m u e => by
    rw [upd_ne fun z => n (by rw [← z]; exact m)]
    exact e⟩
/-- the form one uses -/
theorem for_keysT {a : Addr} {ob : Obj} {kvs : List (List Key × V)} {g : TG} {tb : TS} {D : Ends} {σ : L2.St} {H : Hp} (Pv : Nat → L2.St → Hp → Prop) (h0 : Pv 0 σ H) (hl : ∀ i σ H, i ≤ kvs.length → Pv i σ H → H a = some (.frz ob (.dT kvs)))
    (hs : ∀ i k v q σ H, kvs[i]? = some (k, v) → H q = some (.tup (k.map kV)) → Pv i σ H → g (.ref q) σ H fun σ2 H2 => tb { D with nx := Pv (i + 1), ct := Pv (i + 1), bk := D.nx } σ2 H2) (hd : ∀ σ H, Pv kvs.length σ H → D.nx σ H) :
    ∃ W : Nat → Nat → L2.St → Hp → Prop, (∃ m, W 0 m σ H) ∧ ∀ i m σ H, W i m σ H →
      ((Itkt a ob kvs).stop i H ∧ D.nx σ H) ∨ ((Itkt a ob kvs).go i H ∧ ∃ N : L2.St → Hp → Prop, (∀ σ' H', N σ' H' → ∃ m', m' < m ∧ W (i + 1) m' σ' H') ∧ ∀ x H', (Itkt a ob kvs).yld i H x H' → g x σ H' fun σ2 H2 => tb { D with nx := N, ct := N, bk := D.nx } σ2 H2) := by
  refine ⟨fun i m σ H => m = kvs.length - i ∧ i ≤ kvs.length ∧ Pv i σ H, ⟨kvs.length, by simp, Nat.zero_le _, h0⟩, ?_⟩
  rintro i m σ H ⟨rfl, hi, p⟩
  have q := hl i σ H hi p
  rcases Nat.lt_or_ge i kvs.length with hlt | hge
  · refine .inr ⟨⟨q, hlt⟩, Pv (i + 1), fun σ' H' p' => ⟨kvs.length - (i + 1), by omega, rfl, hlt, p'⟩, fun x H' y => ?_⟩
    obtain ⟨e, k, v, t, y1, y2, y3⟩ := y
    subst e y2
    exact hs i k v t σ _ y1 y3 p
  · have e : i = kvs.length := by omega
    subst e
    exact .inl ⟨⟨q, Nat.le_refl _⟩, hd σ H p⟩
section
variable {X : Cx} {S : SS} {e a b c o : Expr} {d d1 d2 d3 : PyData} {pos : Pos} {D : Ends} {rest : List Stmt}
theorem gb_forD {γ : Type} (i : Nat) (Iv : Nat → γ → Prop) (mu : γ → List (Addr × MO)) (rho : γ → List SD) {x : Str} {tp : Pos} {iter : Expr} {body : List Stmt} {l : List ((Int × Int) × PyData)} (hi : VE X S iter (.dict (kvE l))) (ht : PG X (.Name x tp) ((Tg.nm i).g X.K))
    (h0 : ∃ g, Iv 0 g ∧ mu g = S.mu ∧ Weak S.rho (rho g))
    (hb : ∀ Hb, Stp S.os0 S.H0 Hb → ∀ (k : Nat) (y : Int × Int) (dy : PyData) g, l[k]? = some (y, dy) → Iv k g → GB X ⟨Hb, S.os0, mu g, (rho g).set i (.dat (stD y))⟩ body { D with nx := Hd X.K Hb S.os0 (Iv (k + 1)) mu rho, ct := Hd X.K Hb S.os0 (Iv (k + 1)) mu rho, bk := RUN X rest D })
    (hd : ∀ g, Iv l.length g → GB X ⟨S.H0, S.os0, mu g, rho g⟩ rest D) (hc : X.calm = true) (hp : PassesOwn (model X.prog X.w) X.A X.env X.xe := by exact PassesOwn.never) (hs : ∀ x, foldedSetIterable iter X.env x = pure x := by intro _; rfl) :
    GB X S (.For (.Name x tp) iter body [] pos :: rest) D := fun σ H s => by
  refine run_cons (ps_for hp hc (pi_keysR hi) ht pss_run hs) ⟨s, fun v H1 s1 i1 => ?_⟩
  obtain ⟨p, kvs, rfl, h1, h2⟩ := i_dct i1
  have sn := s.step s1
  obtain ⟨g0, i0, m0, w0⟩ := h0
  have dom0 := s.dom
  have nos : p ∉ S.os := by
    rcases h1 with h1 | ⟨_, h1⟩
    · exact (hid_some h1).1
    · exact (hid_some h1).1
  have core : ∀ {H2 : Hp} {ob : Obj}, SA X.K S σ H2 → IsM kT X.K (hid S.os H2) kvs l → H2 p = some (.frz ob (.dT kvs)) → _ := fun {H2 ob} s2 m2 hf =>
    for_keysT (a := p) (ob := ob) (kvs := kvs) (g := (Tg.nm i).g X.K) (tb := fun D σ H => RUN X body D σ H) (D := { D with nx := RUN X rest D }) (σ := σ) (H := H2) (fun k σ' H' => Hd X.K (S.now H2) S.os0 (Iv k) mu rho σ' H') ⟨g0, i0, by rw [m0]; exact s2.rebase.weak w0⟩
      (fun k σ' H' _ ⟨g, _, sg⟩ => by
        have hb' : S.now H2 p = some (.frz ob (.dT kvs)) := by rw [show S.now H2 p = H2 p from hid_out fun z => nos (List.mem_append_left _ z)]; exact hf
        exact sg.stp.ext.exact hb' (fun _ z => nomatch z) fun _ _ _ z => nomatch z)
      (fun k y v q σ' H' hk hq ⟨g, ig, sg⟩ => by
        obtain ⟨k', dy, e1, rfl, _⟩ := m2.get hk
        have gb := hb _ s2.nowStp k k' dy g e1 ig
        refine sg.tg (t := .nm i) (d := stD k') rfl (.key ?_) fun σ2 s3 => gb σ2 H' s3
        rw [hid_out (sg.tupOut hq)]
        exact hq)
      (fun σ' H' ⟨g, ig, sg⟩ => by
        rw [m2.len] at ig
        exact hd g ig σ' H' (sg.unbase s2.nowStp dom0))
  rcases h1 with h1 | ⟨ob, h1⟩
  · refine ⟨p, kvs, rfl, .inr ⟨(hid_some h1).2, fun ob => ?_⟩⟩
    have st := Stp.lock (o := ob) (hid_some h1).2 nos
    exact core (sn.step st) (h2.mono st.ext.hid) upd_same
  · exact ⟨p, kvs, rfl, .inl ⟨ob, (hid_some h1).2, core sn h2 (hid_some h1).2⟩⟩
/-! ### for over reversed(list) -/
theorem gb_forRev {γ : Type} (t : Tg) (Iv : Nat → γ → Prop) (mu : γ → List (Addr × MO)) (rho : γ → List SD) {tg iter : Expr} {rp rc : Pos} {body : List Stmt} {ds : List PyData} (hm : X.mg "reversed" = none) (hi : VE X S iter (.list ds)) (ht : PG X tg (t.g X.K))
    (h0 : ∃ g, Iv 0 g ∧ mu g = S.mu ∧ Weak S.rho (rho g))
    (hb : ∀ Hb, Stp S.os0 S.H0 Hb → ∀ k d g, ds.reverse[k]? = some d → Iv k g → ∃ ρ', t.put d (rho g) = some ρ' ∧ GB X ⟨Hb, S.os0, mu g, ρ'⟩ body { D with nx := Hd X.K Hb S.os0 (Iv (k + 1)) mu rho, ct := Hd X.K Hb S.os0 (Iv (k + 1)) mu rho, bk := RUN X rest D })
    (hd : ∀ g, Iv ds.length g → GB X ⟨S.H0, S.os0, mu g, rho g⟩ rest D) (hc : X.calm = true) (hg : Gl X "reversed" := by rfl) (hst : starEach [iter] X.env = [(false, eval iter X.env)] := by rfl) (hp : PassesOwn (model X.prog X.w) X.A X.env X.xe := by exact PassesOwn.never)
    (hs : ∀ x, foldedSetIterable (.Call (.Name "reversed" rp) [iter] [] rc) X.env x = pure x := by intro _; rfl) :
    GB X S (.For tg (.Call (.Name "reversed" rp) [iter] [] rc) body [] pos :: rest) D := fun σ H s => by
  refine run_cons (ps_for hp hc (pi_reversed hg hm (va_cons hi va_nil hst) hst) ht pss_run hs) ⟨s, fun vs H1 s1 is => ?_⟩
  obtain ⟨v, rfl, i1⟩ := all1 is
  obtain ⟨p, xs, rfl, h1, h2⟩ := i_lst i1
  have sn := s.step s1
  have e1 : hid S.os0 (S.now H1) = hid S.os H1 := hid_hid
  rw [← e1] at h1 h2
  obtain ⟨g0, i0, m0, w0⟩ := h0
  have dom0 := s.dom
  refine ⟨p, xs, rfl, hid_ext.l (hid_ext.l h1), fun k m σ' H' => m = xs.length - k ∧ k ≤ xs.length ∧ Hd X.K (S.now H1) S.os0 (Iv k) mu rho σ' H', ⟨xs.length, by simp, Nat.zero_le _, g0, i0, by rw [m0]; exact sn.rebase.weak w0⟩, ?_⟩
  rintro k m σ' H' ⟨rfl, hk, g, ig, sg⟩
  have q : SqL X.K H' p xs := hid_ext.l (sg.base.l h1)
  rcases Nat.lt_or_ge k xs.length with hlt | hge
  · have hx : xs[xs.length - 1 - k]? = some xs[xs.length - 1 - k] := List.getElem?_eq_getElem (by omega)
    refine .inr ⟨⟨hlt, xs, _, q, hx⟩, Hd X.K (S.now H1) S.os0 (Iv (k + 1)) mu rho, fun σ2 H2 z => ⟨xs.length - (k + 1), by omega, rfl, hlt, z⟩, fun x H2 y => ?_⟩
    obtain ⟨e, y⟩ := y
    subst e
    have hy := y xs q
    obtain ⟨d', hd', id'⟩ := h2.getV hy
    have hr : ds.reverse[k]? = some d' := by
      rw [List.getElem?_reverse (by rw [← h2.len]; exact hlt), ← h2.len]
      exact hd'
    obtain ⟨ρ', hp', gb⟩ := hb _ sn.nowStp k d' g hr ig
    exact sg.tg hp' (sg.is id') fun σ2 s2 => gb σ2 _ s2
  · have e : k = xs.length := by omega
    subst e
    rw [h2.len] at ig
    exact .inl ⟨Nat.le_refl _, hd g ig σ' H' (sg.unbase sn.nowStp dom0)⟩
/-! ### try whose body raises nothing -/
theorem gb_try {body : List Stmt} {h0 : ExceptHandler} {hs : List ExceptHandler} (hb : GB X.nox S body { D with nx := fun σ H => SA X.K S σ H }) (hr : GB X S rest D) : GB X S (.Try body (h0 :: hs) [] [] pos :: rest) D := fun σ H s => by
  refine run_cons (ps_try_thru0 (t := fun D σ H => RUN X.nox body D σ H) pss_run) ?_
  exact RUN.mono (hb σ H s) hr (fun _ _ z => z) (fun _ _ z => z) fun _ _ z => z
/-! ### while -/
theorem gb_while {γ : Type} (Iv : Nat → γ → Prop) (mu : γ → List (Addr × MO)) (rho : γ → List SD) {body : List Stmt} (n0 : Nat) (h0 : ∃ g, Iv n0 g ∧ mu g = S.mu ∧ Weak S.rho (rho g))
    (hb : ∀ n g, Iv n g → ∃ k, VT X ⟨S.H0, S.os0, mu g, rho g⟩ c k ∧ (k = true → GB X ⟨S.H0, S.os0, mu g, rho g⟩ body { D with nx := fun σ H => ∃ m, m < n ∧ Hd X.K S.H0 S.os0 (Iv m) mu rho σ H, ct := fun σ H => ∃ m, m < n ∧ Hd X.K S.H0 S.os0 (Iv m) mu rho σ H, bk := RUN X rest D }) ∧
      (k = false → GB X ⟨S.H0, S.os0, mu g, rho g⟩ rest D)) (hp : PassesOwn (model X.prog X.w) X.A X.env X.xe := by exact PassesOwn.never) : GB X S (.While c body [] pos :: rest) D := fun σ H s => by
  -- the test's reading, for any state of the invariant
  have hc : PT X c (fun σ H Q => ∃ S' k, VT X S' c k ∧ tDT X.K S' k σ H Q) := ⟨fun pins sh σ H Q I ⟨S', k, h, q⟩ => h.run pins sh σ H Q I q⟩
  refine run_cons (ps_while hp hc (pss_run (sts := body))) ?_
  obtain ⟨g0, i0, m0, w0⟩ := h0
  refine ⟨fun m σ' H' => Hd X.K S.H0 S.os0 (Iv m) mu rho σ' H', ⟨n0, g0, i0, by rw [m0]; exact s.weak w0⟩, ?_⟩
  rintro m σ' H' ⟨g, ig, sg⟩
  obtain ⟨k, ht, h1, h2⟩ := hb m g ig
  refine ⟨_, k, ht, sg, fun H2 s2 => ?_⟩
  cases k with
  | true =>
    show ∃ N : L2.St → Hp → Prop, _
    exact ⟨fun σ2 H3 => ∃ m', m' < m ∧ Hd X.K S.H0 S.os0 (Iv m') mu rho σ2 H3, fun _ _ z => z, h1 rfl _ _ (sg.step s2)⟩
  | false => exact h2 rfl _ _ (sg.step s2)
end
end DL

namespace DL
open PySem PySem.Spec PyProof.Rows L2

/-! ### {k: v}, k a pair -/
def tDisp1 (tk tv : TE) : TE := fun σ H Q => ∀ p, H p = none → tk σ (upd H p (.dT [])) fun x H1 => tv σ H1 fun y H2 => H2 p = some (.dT []) ∧ ∃ b ks, x = .ref b ∧ H2 b = some (.tup (ks.map kV)) ∧ Q (.ref p) (upd H2 p (.dT [(ks, y)]))
theorem pe_disp1 {X : Cx} {pos : Pos} {k v : Expr} {tk tv : TE} (hu : X.A.units < cLine) (hk : PE X k tk) (hv : PE X v tv) : PE X (.Dict [some k] [v] pos) (tDisp1 tk tv) := by
  refine ⟨fun pins s σ H Q I q => ?_⟩
  have hn := I.hok.fresh (Nat.le_refl s.heap.objs.size)
  have I1 := I.laid (a := s.heap.objs.size) (o := .dT []) (h' := s.heap.push { cls := .type "dict", data := .dict #[] }) (t' := s.toks) (fun _ _ q => Heap.get?_push_of_some _ q) (Nat.le_refl _) (dt_empty s.heap I.big)
  rw [arm_eval_Dict, zip_pairTrees [some k] [v] X.env pos rfl rfl, dictDisplay_pairs (pairTrees [some k] [v] X.env pos) (fun z => by have := pairTrees_length [some k] [v] X.env pos rfl rfl; rw [z] at this; cases this) (by rw [pairTrees_length [some k] [v] X.env pos rfl rfl]; show 1 < 17; decide)]
  refine wpAny_bind (wpAny_standAt (wpAny_bind (wpAny_subDictH (knd := tupleKind (mixKind X.prog X.w)) hu (by rw [pairTrees_length [some k] [v] X.env pos rfl rfl]; show 1 ≤ 15; decide) ?_)))
  refine pairTrees_cons_walk (thn (hk.run pins _ σ _ _ I1 (q _ hn)) fun u s1 ⟨x, H1, I1, rx, q1⟩ => thn (hv.run pins s1 σ H1 _ I1 q1) fun w2 s2 ⟨y, H2, I2, ry, e, b, ks, ex, eb, q2⟩ => pairTrees_nil_walk ?_)
  subst ex
  cases rx
  obtain ⟨z, hd, xs, r0, dd⟩ := dt_of I2.hok e
  cases r0
  refine ⟨[(ks, b, w2)], ⟨rfl, rfl, key_of I2.hok eb, trivial⟩, dd, fun h' tk dd' hs => wpAny_pure ?_⟩
  have he : ∃ q, h'.get? s.heap.objs.size = some q := let ⟨q, _, _, hq, _⟩ := dd'; ⟨q, hq⟩
  obtain ⟨ob, es, ep, hq, h2, h3, h4, _, h5⟩ := dd'
  refine ⟨.ref s.heap.objs.size, _, d_write (t' := tk) (ob := .dT [(ks, y)]) I2 (by rw [e]; exact True.intro) hs he ⟨(by show 1 ≤ sizeLine; decide), hd, [(ks, b, w2)], .cons ⟨rfl, ?_, ry⟩ .nil, ob, es, ep, hq, h2, h3, h4, h5⟩, rfl, q2⟩
  rw [upd_ne (ne_of eb e (fun z => nomatch z))]
  exact eb
section
variable {X : Cx} {S : SS} {e a b c o : Expr} {d d1 d2 d3 : PyData} {pos : Pos} {D : Ends} {rest : List Stmt}
theorem ve_disp1 {k : Int × Int} (hu : X.A.units < cLine) (hk : ∀ p, VE X ⟨S.H0, S.os0, (p, .mT []) :: S.mu, S.rho⟩ a (stD k)) (hv : ∀ p, VE X ⟨S.H0, S.os0, (p, .mT []) :: S.mu, S.rho⟩ b d) : VE X S (.Dict [some a] [b] pos) (.dict (kvE [(k, d)])) := by
  have hk' : PE X a (fun σ H Q => ∃ p, tD X.K ⟨S.H0, S.os0, (p, .mT []) :: S.mu, S.rho⟩ (stD k) σ H Q) := ⟨fun pins s σ H Q I ⟨p, q⟩ => (hk p).run pins s σ H Q I q⟩
  have hv' : PE X b (fun σ H Q => ∃ p, tD X.K ⟨S.H0, S.os0, (p, .mT []) :: S.mu, S.rho⟩ d σ H Q) := ⟨fun pins s σ H Q I ⟨p, q⟩ => (hv p).run pins s σ H Q I q⟩
  refine PEimp (pe_disp1 hu hk' hv') fun σ H Q ⟨s, q⟩ => fun p hp => ?_
  have s0 := s.own (m := .mT []) hp ⟨[], upd_same, .nil⟩
  refine ⟨p, s0, fun v1 H1 s1 i1 => ⟨p, s0.step s1, fun v2 H2 s2 i2 => ?_⟩⟩
  have sn := (s0.step s1).step s2
  obtain ⟨kvs, m1, m2⟩ := sn.mok _ List.mem_cons_self
  cases m2
  obtain ⟨t, rfl, h3⟩ := i_key (i1.mono s2.ext.hid)
  have h4 := (hid_some h3).2
  refine ⟨m1, t, kT k, rfl, h4, ?_⟩
  have sub : ∀ x, x ∈ S.os → x ∈ SS.os ⟨S.H0, S.os0, (p, .mT []) :: S.mu, S.rho⟩ := fun x m => by
    rcases List.mem_append.mp m with m | m
    · exact List.mem_append_left _ (List.mem_cons_of_mem _ m)
    · exact List.mem_append_right _ m
  have st : Stp S.os H (upd H2 p (.dT [(kT k, v2)])) := (((Stp.new hp).trans (s1.sub sub)).trans (s2.sub sub)).mutNew hp
  refine q _ _ st (.dct (kvs := [(kT k, v2)]) (.inl ?_) (.cons (r := k.1) (w := k.2) (v := v2) ?_ .nil))
  · rw [hid_out (s.fresh hp)]
    exact upd_same
  · refine i2.mono fun z u hz => ?_
    obtain ⟨z1, z2⟩ := hid_some hz
    have zp : z ≠ p := fun e => z1 (by rw [e]; exact List.mem_append_left _ List.mem_cons_self)
    refine ⟨u, ?_, .inl rfl⟩
    rw [hid_out (fun m => z1 (sub z m)), upd_ne zp]
    exact z2
end
/-! ### sorted: one order on pairs of ints -/
def leP (x y : Int × Int) : Bool := decide (x.1 < y.1 ∨ (x.1 = y.1 ∧ x.2 ≤ y.2))
theorem leP_iff {x y : Int × Int} : leP x y = true ↔ x.1 < y.1 ∨ (x.1 = y.1 ∧ x.2 ≤ y.2) := by
  unfold leP
  rw [decide_eq_true_eq]
theorem leP_trans (x y z : Int × Int) (a : leP x y = true) (b : leP y z = true) : leP x z = true := by
  rw [leP_iff] at *
  omega
theorem leP_total (x y : Int × Int) : (leP x y || leP y x) = true := by
  rw [Bool.or_eq_true, leP_iff, leP_iff]
  omega
theorem leP_anti {x y : Int × Int} (a : leP x y = true) (b : leP y x = true) : x = y := by
  rw [leP_iff] at *
  exact Prod.ext (by omega) (by omega)
/-- the sorted list -/
def srt (l : List (Int × Int)) : List (Int × Int) := l.mergeSort leP
theorem srt_perm (l : List (Int × Int)) : (srt l).Perm l := List.mergeSort_perm l leP
theorem srt_sorted (l : List (Int × Int)) : (srt l).Pairwise fun x y => leP x y = true := List.pairwise_mergeSort leP_trans leP_total l
theorem srt_uniq : ∀ {l m : List (Int × Int)}, l.Perm m → (l.Pairwise fun x y => leP x y = true) → (m.Pairwise fun x y => leP x y = true) → l = m
  | [], m, p, _, _ => (List.Perm.nil_eq p)
  | x :: l, [], p, _, _ => absurd p.length_eq (by simp)
  | x :: l, y :: m, p, hl, hm => by
    have h1 : leP x y = true := by
      rcases List.mem_cons.mp (p.mem_iff.mpr (List.mem_cons_self (a := y) (l := m))) with e | e
      · subst e; exact leP_iff.mpr (.inr ⟨rfl, Int.le_refl _⟩)
      · exact (List.pairwise_cons.mp hl).1 y e
    have h2 : leP y x = true := by
      rcases List.mem_cons.mp (p.mem_iff.mp (List.mem_cons_self (a := x) (l := l))) with e | e
      · subst e; exact leP_iff.mpr (.inr ⟨rfl, Int.le_refl _⟩)
      · exact (List.pairwise_cons.mp hm).1 x e
    have e := leP_anti h1 h2
    subst e
    rw [srt_uniq p.cons_inv (List.pairwise_cons.mp hl).2 (List.pairwise_cons.mp hm).2]
theorem srt_eq {l m : List (Int × Int)} (p : m.Perm l) (h : m.Pairwise fun x y => leP x y = true) : m = srt l := srt_uniq (p.trans (srt_perm l).symm) h (srt_sorted l)
/-- the pair that a value's tuple holds -/
def kOf (H : Hp) : Value → Int × Int
  | .ref b => match H b with
    | some (.tup [.int r, .int w]) => (r, w)
    | _ => (0, 0)
  | _ => (0, 0)
theorem kOf_ref {H : Hp} {b : Addr} {k : Int × Int} (h : H b = some (.tup [.int k.1, .int k.2])) : kOf H (.ref b) = k := by
  show (match H b with | some (HO.tup [V.int r, V.int w]) => (r, w) | _ => (0, 0)) = k
  rw [h]
theorem leP_no {x y : Int × Int} (h : SrtO.lexB y x = false) : leP x y = true := by
  have a := SrtO.lexB_no.mp h
  rw [leP_iff]
  omega
theorem isPair_of {X : Cx} {pins : List (Addr × Obj)} {σ : L2.St} {H : Hp} {s : Shared} (I : Inv X pins σ H s) {b : Addr} {k : Int × Int} (h : H b = some (.tup [.int k.1, .int k.2])) : Srt.IsPair s.heap (.ref b) k.1 k.2 := by
  obtain ⟨_, its2, r2, o, ho, hc, n, hd⟩ := I.hok _ _ h
  obtain ⟨u1, u2, rfl, ri, rj⟩ := vals2 r2
  obtain ⟨t1, rfl⟩ := ri
  obtain ⟨t2, rfl⟩ := rj
  exact ⟨b, o, t1, t2, n, rfl, ho, hc, hd⟩
theorem kOf_all {H : Hp} : ∀ {bs : List Addr} {ks : List (Int × Int)}, Paired (fun (b : Addr) (k : Int × Int) => H b = some (.tup [.int k.1, .int k.2])) bs ks → (bs.map Value.ref).map (kOf H) = ks
  | _, _, .nil => rfl
  | _, _, .cons h t => by rw [List.map_cons, List.map_cons, kOf_ref h, kOf_all t]
theorem stAll {K : PySem.W.Frag} {S : SS} {σ : L2.St} {H : Hp} (s : SA K S σ H) : ∀ {bs : List Addr} {ks : List (Int × Int)}, Paired (fun (b : Addr) (k : Int × Int) => H b = some (.tup [.int k.1, .int k.2])) bs ks → IsAll K (hid S.os H) (bs.map V.ref) (ks.map stD)
  | _, _, .nil => .nil
  | _, _, .cons h t => .cons (.key (by rw [hid_out (s.tupOut h)]; exact h)) (stAll s t)
theorem call_sortedT {X : Cx} (hcalm : X.calm = true) : CallR X (.builtin "sorted") (fun xs H Q => ∃ (a : Addr) (kvs : List (List Key × V)) (ks : List (Int × Int)), xs = [.ref a] ∧ Rd H a (.dT kvs) ∧ kvs.map (·.1) = ks.map kT ∧
    ∀ (bs : List Addr) (p : Addr), Paired (fun (b : Addr) (k : Int × Int) => H b = some (.tup [.int k.1, .int k.2])) bs (srt ks) → H p = none → Q (.ref p) (upd H p (.lst (bs.map V.ref)))) := by
  intro pins s σ H xs us Q I r q
  obtain ⟨a, kvs, ks, ex, hd, hks, q⟩ := q
  subst ex
  obtain ⟨u, eu, rx⟩ := vals1 r
  subst eu
  cases rx
  obtain ⟨z, hs, xs, pr, o, es, ep, ho, hx, hdt, he, hn⟩ := (show ObjOk X.prog X.w H s.heap a (.dT kvs) from hd.ok I.hok)
  have l1 : es.size = xs.length := size_of_entries he
  have l2 : kvs.length = xs.length := Paired.length pr
  -- the keys' tuples
  have prk : ∀ {kvs : List (List Key × V)} {ks : List (Int × Int)} {xs : List (List Key × Addr × Value)}, KT H kvs xs → kvs.map (·.1) = ks.map kT → Paired (fun (b : Addr) (k : Int × Int) => H b = some (.tup [.int k.1, .int k.2])) (xs.map fun x => x.2.1) ks := by
    intro kvs ks xs pr
    induction pr generalizing ks with
    | nil =>
      intro h
      cases ks with
      | nil => exact .nil
      | cons k ks => simp at h
    | cons h t ih =>
      intro hk
      cases ks with
      | nil => simp at hk
      | cons k ks =>
        rw [List.map_cons, List.map_cons] at hk
        injection hk with k1 k2
        refine .cons ?_ (ih k2)
        have := h.2.1
        rw [k1] at this
        exact this
  have pk := prk pr hks
  refine Calls.call_function_entry PyProof.Rows.kind_sorted PyProof.Rows.plain_sorted PyProof.Rows.entry_sorted (PyProof.Rows.args_sorted1 _) ?_
  unfold Builtin.«sorted»
  refine wpAny_bind (m := checkCount "sorted" 1 1 _) (wpAny_pure ?_)
  refine wpAny_bind (PySem.W.kdu_collect (A := X.A.in1) (kdl_raw hs hx hdt) (I.ok.hd hcalm) ho (by omega) fun h' tk acc' kp it => ?_)
  have ea : acc'.toList = (xs.map fun x => x.2.1).map Value.ref := by
    have hl : acc'.toList.length = xs.length := by rw [Array.length_toList, it.1]; exact l1
    apply List.ext_getElem?
    intro j
    rw [List.getElem?_map, List.getElem?_map]
    cases hj : acc'.toList[j]? with
    | none =>
      have h1 := List.getElem?_eq_none_iff.mp hj
      rw [List.getElem?_eq_none (by omega)]
      rfl
    | some v =>
      obtain ⟨en, hen, hv⟩ := it.2 j v (by rw [← Array.getElem?_toList]; exact hj)
      have qe := entry_at he j
      rw [hen] at qe
      cases hb : xs[j]? with
      | none =>
        rw [hb] at qe
        exact nomatch (show some en = none from qe)
      | some b =>
        rw [hb] at qe
        have e2 : en = entryOfKey (tupleKind (mixKind X.prog X.w)) b := Option.some.inj qe
        rw [hv, e2]
        rfl
  generalize hbs : (xs.map fun x => x.2.1) = bs0 at ea pk
  have hlb : bs0.length = xs.length := by rw [← hbs, List.length_map]
  have I1 : Inv X pins σ H { s with heap := h', toks := tk } := I.kept kp
  have hz : acc'.toList.length ≤ sizeLine := by rw [ea, List.length_map]; omega
  refine wpAny_bind (wpAny_newList ?_ hz)
  have hoL : (h'.push (seqObj "list" acc'.toList.toArray 0)).get? h'.objs.size = some (seqObj "list" acc'.toList.toArray 0) := Heap.get?_push_size _ rfl
  show wpAny _ _ _ _ _ { s with heap := h'.push (seqObj "list" acc'.toList.toArray 0), toks := tk }
  -- every value is a pair
  have hpair : ∀ v ∈ acc'.toList, Srt.IsPair (h'.push (seqObj "list" acc'.toList.toArray 0)) v (kOf H v).1 (kOf H v).2 := fun v hv => by
    rw [ea] at hv
    obtain ⟨b, hb, rfl⟩ := List.mem_map.mp hv
    obtain ⟨j, hj⟩ := List.getElem?_of_mem hb
    obtain ⟨k, hk, hh⟩ := paired_get pk hj
    rw [kOf_ref hh]
    exact (isPair_of I1 hh).keeps fun b o e _ => Heap.get?_push_of_some _ e
  refine wpAny_bind (wpAny_holding (wpAny_call_entry PyProof.Rows.slot_list_sort ⟨_, hoL, rfl⟩ PyProof.Rows.entry_list_sort
    (SrtO.list_sort_ord (s := { s with heap := h'.push (seqObj "list" acc'.toList.toArray 0), toks := tk }) (SrtO.swo_lex (kOf H)) hoL hz (fun h2 => SrtO.pairs_sortableO (k := kOf H) (by omega) hpair fun o e => ?_) fun out hs hb => ⟨_, rfl, ?_⟩) (PyProof.Rows.args_list_sort _)))
  · have e' : some o = some (seqObj "list" acc'.toList.toArray 0) := e.symm.trans hoL
    cases e'
    intro c
    exact absurd (Value.type.inj c) (by decide)
  · obtain ⟨e', he'⟩ := PyProof.Rows.sortedHeap_at (vs := acc'.toList) (out := out.toArray) hoL
    have href : ∀ v ∈ out, ∃ b, v = Value.ref b ∧ ∃ k : Int × Int, H b = some (.tup [.int k.1, .int k.2]) := fun v hv => by
      have hv' := hb.perm.mem_iff.mp hv
      rw [ea] at hv'
      obtain ⟨b, hb', rfl⟩ := List.mem_map.mp hv'
      obtain ⟨j, hj⟩ := List.getElem?_of_mem hb'
      obtain ⟨k, hk, hh⟩ := paired_get pk hj
      exact ⟨b, rfl, k, hh⟩
    have hout : ∀ {l : List Value}, (∀ v ∈ l, ∃ b, v = Value.ref b ∧ ∃ k : Int × Int, H b = some (.tup [.int k.1, .int k.2])) → ∃ bs : List Addr, l = bs.map Value.ref ∧ Paired (fun (b : Addr) (k : Int × Int) => H b = some (.tup [.int k.1, .int k.2])) bs (l.map (kOf H)) := by
      intro l
      induction l with
      | nil => exact fun _ => ⟨[], rfl, .nil⟩
      | cons v l ih =>
        intro h
        obtain ⟨b, rfl, k, hk⟩ := h v List.mem_cons_self
        obtain ⟨bs, rfl, hp⟩ := ih fun w hw => h w (List.mem_cons_of_mem _ hw)
        refine ⟨b :: bs, rfl, ?_⟩
        rw [List.map_cons, kOf_ref hk]
        exact .cons hk hp
    obtain ⟨bs, e1, p1⟩ := hout href
    have kk : (acc'.toList.map (kOf H)) = ks := by
      rw [ea]
      exact kOf_all pk
    have pm : (out.map (kOf H)).Perm ks := by rw [← kk]; exact hb.perm.map _
    have ps : (out.map (kOf H)).Pairwise fun x y => leP x y = true := List.pairwise_map.mpr (hs.imp fun {x y} h => leP_no h)
    rw [srt_eq pm ps] at p1
    have hlen : (bs.map V.ref).length ≤ sizeLine := by
      have := hb.perm.length_eq
      rw [e1, List.length_map] at this
      rw [List.length_map, this]
      exact hz
    refine wpAny_pure ⟨_, rfl, .ref h'.objs.size, upd H h'.objs.size (.lst (bs.map V.ref)), I1.laid (t' := tk) (fun b u e => ?_) (Nat.le_refl _)
      (show ObjOk X.prog X.w _ _ _ (.lst (bs.map V.ref)) from ⟨hlen, out, e', by rw [e1]; exact vals_refs bs, by simpa using he'⟩), rfl, q bs _ p1 (I1.hok.fresh (Nat.le_refl _))⟩
    have hb : b < h'.objs.size := Heap.lt_size e
    rw [PyProof.Rows.sortedHeap_old (Nat.ne_of_lt hb) (by rw [size_push']; exact Nat.lt_succ_of_lt hb)]
    exact Heap.get?_push_of_some _ e
section
variable {X : Cx} {S : SS} {e a b c o : Expr} {d d1 d2 d3 : PyData} {pos : Pos} {D : Ends} {rest : List Stmt}
/-- sorted(table): its keys, sorted -/
theorem ve_sortedT {l : List ((Int × Int) × PyData)} {p : Pos} (hc : X.calm = true) (hm : X.mg "sorted" = none) (ha : VE X S e (.dict (kvE l))) (hg : Gl X "sorted" := by rfl) (he : starEach [e] X.env = [(false, eval e X.env)] := by rfl) :
    VE X S (.Call (.Name "sorted" p) [e] [] pos) (.list ((srt (l.map (·.1))).map stD)) :=
  ve_callB (call_sortedT hc) hm (by decide +kernel) (va_cons ha va_nil he) (fun vs σ H Q s is q => by
    obtain ⟨v, rfl, h⟩ := all1 is
    obtain ⟨t, kvs, rfl, h1, h2⟩ := i_dct h
    refine ⟨t, kvs, l.map (·.1), rfl, hid_ext.rdT h1, h2.keys, fun bs p hb hp => ?_⟩
    refine q _ _ (Stp.new hp) ?_
    rw [hid_upd_out (s.fresh hp)]
    refine .lst (SqL.of upd_same) ?_
    have ex : Ext (hid S.os H) (upd (hid S.os H) p (.lst (bs.map V.ref))) := Ext.new (by rw [hid_out (s.fresh hp)]; exact hp)
    exact (stAll s hb).mono ex) hg (by decide) (by decide) he rfl
/-- sorted(owned table with int keys), fewer than 64 -/
theorem ve_sortedK (i j : Nat) {x : Str} {np p2 : Pos} {p : Addr} {l : List (Int × PyData)} (hc : X.calm = true) (hm : X.mg "sorted" = none) (hi : S.rho[i]? = some (.val (.ref p))) (hj : S.mu[j]? = some (p, .mK l)) (h64 : l.length < 64) (hN : X.N[i]? = some x := by rfl)
    (hv : Vis X.env.scope x := by first | exact Or.inl rfl | exact Or.inr (Or.inl rfl) | exact Or.inr (Or.inr rfl)) (h1 : (x == ("__debug__" : Str)) = false := by decide) (h2 : (x == ("__classdict__" : Str)) = false := by decide) (hg : Gl X "sorted" := by rfl) (he : starEach [.Name x np] X.env = [(false, eval (.Name x np) X.env)] := by rfl) :
    VE X S (.Call (.Name "sorted" p2) [.Name x np] [] pos) (.list (((l.map (·.1)).mergeSort fun a b => decide (a ≤ b)).map PyData.int)) :=
  PEimp (pe_callB (call_sortedDI hc) hg hm (by decide +kernel) (pa_cons (pv i hN hv h1 h2) pa_nil he) (by decide) (by decide) he rfl) fun σ H Q ⟨s, q⟩ => by
    obtain ⟨kvs, m1, m2⟩ := s.mok _ (List.mem_of_getElem? hj)
    refine ⟨_, s.env.val hi, p, kvs, l.map (·.1), rfl, .inl m1, m2.keys, by rw [List.length_map]; exact h64, fun ys t hp hs ht => ?_⟩
    have e : ys = (l.map (·.1)).mergeSort fun a b => decide (a ≤ b) := by
      have p2 : ((l.map (·.1)).mergeSort fun a b => decide (a ≤ b)).Perm (l.map (·.1)) := List.mergeSort_perm _ _
      have s2 : ((l.map (·.1)).mergeSort fun a b => decide (a ≤ b)).Pairwise fun a b => decide (a ≤ b) = true := List.pairwise_mergeSort (fun a b c h1 h2 => by simp at *; omega) (fun a b => by simp; omega) _
      exact (hp.trans p2.symm).eq_of_pairwise (le := fun a b => a ≤ b) (fun a b _ _ h1 h2 => by omega) hs (s2.imp fun {a b} h => by simpa using h)
    rw [e]
    exact Want.newL (S := S) q s (Stp.refl H) ht IsAll.ints
end
end DL

/-! a dict comprehension whose keys are pairs: the layer's own rule for int and text keys, turned to tuple keys -/
namespace L2
open PySem PySem.Spec PyProof.Rows
theorem d_dictSetT {X : Cx} {pins : List (Addr × Obj)} {σ : St} {H : Hp} {s : Shared} {E : Value → Shared → Prop} {D b : Addr} {kvs : List (List Key × V)} {k : List Key} {v : V} {r : Value} {Q : Unit → Shared → Prop} (hu : X.A.units < cLine) (I : Inv X pins σ H s) (hD : H D = some (.dT kvs)) (hb : H b = some (.tup (k.map kV))) (hz : kvs.length < sizeLine)
    (rv : RelV v r) (h : ∀ s', Inv X pins σ (upd H D (.dT (putK kvs k v))) s' → Q () s') : wpAny (model X.prog X.w) X.A (dictSet D (.ref b) r) Q E s := by
  obtain ⟨z, hd, xs, rel, dd⟩ := dt_of I.hok hD
  have hzv : xs.length ≤ sizeLine := by rw [← Paired.length rel]; exact z
  have hl : (putK kvs k v).length ≤ sizeLine := by have := length_putK kvs k v; omega
  refine wpAny_dictSet_heap (hsz := hzv) hu (key_of I.hok hb) dd fun h' dd' hs => h _ ?_
  obtain ⟨q, es, ep, hq, h2, h3, h4, _, h5⟩ := dd'
  refine d_write I (by rw [hD]; exact True.intro) hs ⟨q, hq⟩ ⟨hl, hd, _, (rel.put k hb rv).keeps fun c ys ec => ?_, q, es, ep, hq, h2, h3, h4, h5⟩
  rw [upd_ne (ne_of ec hD (fun z => nomatch z))]
  exact ec
section
variable {X : Cx}
/-- {k: v for target in iter if ..}, keys tuples: D the new table -/
def tDcT (wi : TI) (g : TG) (tt : TT) (tk tv : TE) (vs : List Nat) : TE := fun σ H Q => wi σ H fun J H1 => ∀ D, H1 D = none → ∃ W : Nat → Nat → Hp → Prop, (∃ m, W 0 m (upd H1 D (.dT []))) ∧ ∀ i m H, W i m H →
  (J.stop i H ∧ Q (.ref D) H) ∨ (J.go i H ∧ ∃ Nx : Hp → Prop, (∀ H', Nx H' → ∃ m', m' < m ∧ W (i + 1) m' H') ∧ ∀ x H', J.yld i H x H' → g x (wipe σ vs) H' fun σ2 H2 => wipe σ2 vs = wipe σ vs ∧ tt σ2 H2 fun b H3 =>
    if b = true then tk σ2 H3 fun y H4 => tv σ2 H4 fun z H5 => ∃ kvs k bt, y = .ref bt ∧ H5 bt = some (.tup (k.map kV)) ∧ H5 D = some (.dT kvs) ∧ kvs.length < sizeLine ∧ Nx (upd H5 D (.dT (putK kvs k z))) else Nx H3)
theorem dcT_core (hua : X.A.units < cLine) {pins : List (Addr × Obj)} {sh : Shared} {σ : St} {G : Hp} {Q : VK} {kx vx tg iter : Expr} {ifs : List Expr} {scope : Scope} {own : List (Str × Nat)} {pos pos' : Pos} {wi : TI} {g : TG} {tt : TT} {tk tv : TE} {use : Option (Value → Sem Unit)} {Qf : Value → Shared → Prop}
    (hc : X.calm = true) (hN : X.N.Nodup) (Z : Inv X pins σ G sh) (hi : PI X tg iter wi) (ok : BlkOk X.N X.env.scope scope own)
    (hg : ∀ (sh : Shared) (G : Hp) (C : Addr) (cl : List (Str × Addr)) (fp : List Addr), PG (X.blk sh G scope (compEnvC scope cl C X.env) fp) tg g) (ht : ∀ (sh : Shared) (G : Hp) (C : Addr) (cl : List (Str × Addr)) (fp : List Addr), PTs (X.blk sh G scope (compEnvC scope cl C X.env) fp) ifs tt)
    (hk : ∀ (sh : Shared) (G : Hp) (C : Addr) (cl : List (Str × Addr)) (fp : List Addr), PE (X.blk sh G scope (compEnvC scope cl C X.env) fp) kx tk)
    (he : ∀ (sh : Shared) (G : Hp) (C : Addr) (cl : List (Str × Addr)) (fp : List Addr), PE (X.blk sh G scope (compEnvC scope cl C X.env) fp) vx tv) (hs : ∀ x, foldedSetIterable iter X.env x = pure x)
    (h : tDcT wi g tt tk tv (own.map (·.2)) σ G Q)
    (hRR : ∀ D C sh' m G', Inv X pins σ G' sh' → Q (.ref D) G' → sh'.heap.Ns C m → FpOk X pins G' C → compPost (model X.prog X.w) X.A X.xe use Qf (.ref D) C (.ok .next) sh') :
    wpAny (model X.prog X.w) X.A (comprehension (.DictComp kx vx [⟨tg, iter, ifs, 0⟩] scope pos) scope X.env pos' newDict false (eval iter X.env) use) Qf X.xe sh := by
  have hfree : ∀ y ∈ scope.names, y.2 = .free → ∃ c, X.env.cells.lookup y.1 = some c := fun y hy e => by
    rcases ok.free y hy e with k | k
    · exact Z.ok.has _ (.inl k)
    · exact Z.ok.has _ (.inr k)
  refine wpAny_comprehension_free (use := use) rfl hs (closure_ok hfree) ok.kind (fun y hy e => by rw [ok.uniq y hy, e])
    (thn (hi.run pins sh σ G _ Z h) fun xv sh1 hx => thn hx fun itv sh2 h2 => ?_)
  obtain ⟨it, fp, tn, J, G2, e, Z2, T, st2, f2, q⟩ := h2
  subst e
  refine wpAny_newObj_type (newEnv_comp ?_)
  generalize hD : sh2.heap.objs.size = D
  have hDn : G2 D = none := Z2.hok.fresh (Nat.le_of_eq hD)
  obtain ⟨W, ⟨m0, w0⟩, turn⟩ := q D hDn
  -- the new table
  generalize hs3 : ({ sh2 with heap := sh2.heap.push { cls := .type "dict", data := .dict #[] } } : Shared) = sh3
  have Z3 : Inv X pins σ (upd G2 D (.dT [])) sh3 := by
    rw [← hs3]
    refine Z2.laid (t' := sh2.toks) (fun b o e => Heap.get?_push_of_some _ e) (Nat.le_of_eq hD) ?_
    rw [← hD]
    exact dt_empty sh2.heap Z2.big
  have h3 : sh3.heap = sh2.heap.push { cls := .type "dict", data := .dict #[] } := by rw [← hs3]
  have sz : ∀ b ∈ fp, b < sh2.heap.objs.size := fun b hb => by
    obtain ⟨o, e, _⟩ := T.obj _ _ st2 b hb
    exact Heap.lt_size e
  have f3 : ∀ b ∈ fp, FpOk X pins (upd G2 D (.dT [])) b ∧ b < sh3.heap.objs.size := fun b hb => by
    have hlt := sz b hb
    refine ⟨⟨?_, (f2 b hb).2⟩, by rw [h3, Heap.size_push]; exact Nat.lt_succ_of_lt hlt⟩
    rw [upd_ne (by rw [← hD]; exact Nat.ne_of_lt hlt)]
    exact (f2 b hb).1
  have st3 : tn 0 sh3.heap := T.keep _ _ _ st2 fun b _ o e => by rw [h3]; exact Heap.get?_push_of_some _ e
  have Z4 := block_start Z3 ok hN f3
  have pg := hg sh3 (upd G2 D (.dT [])) sh3.heap.objs.size (cellsFrom (sh3.heap.objs.size + 1) scope.names (cloFrom X.env.cells scope.names [])) fp
  have pt := ht sh3 (upd G2 D (.dT [])) sh3.heap.objs.size (cellsFrom (sh3.heap.objs.size + 1) scope.names (cloFrom X.env.cells scope.names [])) fp
  have pk := hk sh3 (upd G2 D (.dT [])) sh3.heap.objs.size (cellsFrom (sh3.heap.objs.size + 1) scope.names (cloFrom X.env.cells scope.names [])) fp
  have pe := he sh3 (upd G2 D (.dT [])) sh3.heap.objs.size (cellsFrom (sh3.heap.objs.size + 1) scope.names (cloFrom X.env.cells scope.names [])) fp
  show codeAny _ _ (.compStart (.DictComp kx vx [⟨tg, iter, ifs, 0⟩] scope pos) 0 (.ref it) (.ref D) (compEnvC scope (cellsFrom (sh3.heap.objs.size + 1) scope.names (cloFrom X.env.cells scope.names [])) sh3.heap.objs.size X.env)) (compPost (model X.prog X.w) X.A X.xe use Qf (.ref D) sh3.heap.objs.size) { sh3 with heap := pushCells (sh3.heap.push { cls := .type "dict", data := .dict #[] }) scope.names }
  have nfp : ∀ b ∈ fp, (upd G2 D (.dT [])) b = none := fun b hb => (f3 b hb).1.1
  generalize hce : compEnvC scope (cellsFrom (sh3.heap.objs.size + 1) scope.names (cloFrom X.env.cells scope.names [])) sh3.heap.objs.size X.env = ce at Z4 pg pt pk pe ⊢
  have cL : ce.locals = sh3.heap.objs.size := by subst hce; rfl
  generalize hH3 : upd G2 D (.dT []) = G3 at Z3 Z4 pg pt pk pe w0 nfp f3
  generalize hs4 : ({ sh3 with heap := pushCells (sh3.heap.push { cls := .type "dict", data := .dict #[] }) scope.names } : Shared) = sh4 at Z4 ⊢
  have st4 : tn 0 sh4.heap := T.keep _ _ _ st3 fun b _ o e => by rw [← hs4]; exact pushCells_keeps _ _ _ _ (Heap.get?_push_of_some _ e)
  have stat : ∀ {σ' : St} {G' : Hp} {sh' : Shared}, Inv (X.blk sh3 G3 scope ce fp) [] σ' G' sh' → (∀ b ∈ fp, G' b = none) → ∀ b ∈ fp, FpOk (X.blk sh3 G3 scope ce fp) [] G' b := fun {σ' G' sh'} Z' hn b hb =>
    ⟨hn b hb, (Z'.ok.exf b hb).1, Z'.ok.exfs b hb, .inl hb, fun x c e => (Z'.ok.exf b hb).2 x c e, fun p hp => absurd (show p ∈ ([] : List (Addr × Obj)) ++ [] from hp) (by simp)⟩
  have loop : codeAny (model X.prog X.w) X.A (.compLoop (.DictComp kx vx [⟨tg, iter, ifs, 0⟩] scope pos) 0 (.ref it) (.ref D) ce) (compPost (model X.prog X.w) X.A X.xe use Qf (.ref D) sh3.heap.objs.size) sh4 := by
    refine compLoop_anyD (fun n sh' => ∃ i G', Inv (X.blk sh3 G3 scope ce fp) [] (wipe σ (own.map (·.2))) G' sh' ∧ tn i sh'.heap ∧ (∀ b ∈ fp, G' b = none) ∧ W i n G') ?_ m0 ⟨0, G3, Z4, st4, nfp, w0⟩
    rintro n sh5 ⟨i, G5, Z5, st5, n5, w5⟩
    rcases turn i n G5 w5 with ⟨stop, qq⟩ | ⟨go, Nx, hNx, step⟩
    · have td := T.done (X.blk sh3 G3 scope ce fp) rfl rfl rfl hc i [] sh5 _ G5 (fun _ _ => False) Z5 (stat Z5 n5) st5 stop
      refine thnF td fun r sh6 ⟨hr, Z6⟩ => ?_
      subst hr
      -- back where the def runs
      have Z7 : Inv X pins σ G5 sh6 := Z3.call' (ch := fp) Z6.os Z6.base Z6.hok Z6.bare fun b hb => ⟨(f3 b hb).1.2.2.2.1, (f3 b hb).1.2.1, (f3 b hb).1.2.2.2.2.1, (f3 b hb).1.2.2.2.2.2⟩
      have nC : G5 sh3.heap.objs.size = none := by
        have z : G5 ce.locals = none := Z6.free
        rw [cL] at z
        exact z
      obtain ⟨m, hn, _⟩ := Z6.loc
      have hn : sh6.heap.Ns ce.locals m := hn
      rw [cL] at hn
      exact hRR D sh3.heap.objs.size sh6 m G5 Z7 qq hn (Z3.fpOk (Nat.le_refl _) nC)
    · have ti := T.item (X.blk sh3 G3 scope ce fp) rfl rfl rfl hc i [] sh5 _ G5 (fun _ _ => False) Z5 (stat Z5 n5) st5 go
      refine thnF ti fun r sh6 ⟨u, hr, h6⟩ => ?_
      subst hr
      refine thnF h6 fun _ sh7 ⟨x, G7, Z7, r7, y7, st7, n7⟩ => ?_
      have Z7' := Z7.pinned (stat Z7 n7) (T.obj _ _ st7)
      refine thnF (pg.run _ sh7 _ G7 x u _ Z7' r7 (step x G7 y7)) fun _ sh8 ⟨σ8, G8, Z8, hw8, q8⟩ => ?_
      refine thnF (pt.run _ sh8 σ8 G8 _ Z8 q8) fun b sh9 ⟨G9, Z9, q9⟩ => ?_
      -- the turn's end
      have fin : ∀ {sh' : Shared} {G' : Hp}, Inv (X.blk sh3 G3 scope ce fp) ([] ++ pinsAt fp sh7.heap) σ8 G' sh' → Nx G' → ∃ m, m < n ∧ ∃ i G', Inv (X.blk sh3 G3 scope ce fp) [] (wipe σ (own.map (·.2))) G' sh' ∧ tn i sh'.heap ∧ (∀ b ∈ fp, G' b = none) ∧ W i m G' := fun {sh' G'} Z' nx => by
        obtain ⟨m', hm, w'⟩ := hNx G' nx
        have pin' : ∀ b ∈ fp, ∀ o, sh7.heap.get? b = some o → sh'.heap.get? b = some o ∧ G' b = none := fun b hb o e =>
          let z := Z'.pin (b, o) (List.mem_append_right _ (List.mem_append_right _ (mem_pinsAt hb e)))
          ⟨z.1, z.2.1⟩
        have hl : (wipe σ (own.map (·.2))).length = σ8.length := by rw [← hw8, wipe_length]
        refine ⟨m', hm, i + 1, G', (Z'.unpinned (pins := [])).weak hl (fun j v e => ?_), T.keep _ _ _ st7 fun b hb o e => (pin' b hb o e).1, fun b hb => ?_, w'⟩
        · rw [← hw8] at e
          exact (wipe_some e).1
        · obtain ⟨o, e, _⟩ := T.obj _ _ st7 b hb
          exact (pin' b hb o e).2
      cases b with
      | false =>
        simp only [Bool.false_eq_true, if_false] at q9 ⊢
        exact fin Z9 q9
      | true =>
        simp only [if_true] at q9 ⊢
        refine thnF (pk.run _ sh9 σ8 G9 _ Z9 q9) fun z sh10 ⟨yk, G10, Z10, r10, q10⟩ => ?_
        refine thnF (pe.run _ sh10 σ8 G10 _ Z10 q10) fun z2 sh11 ⟨yv, G11, Z11, r11, kvs, k, bt, ek, hbt, hD11, hz11, nx⟩ => ?_
        subst ek
        cases r10
        exact d_dictSetT (X := X.blk sh3 G3 scope ce fp) hua Z11 hD11 hbt hz11 r11 fun sh12 Z12 => fin Z12 nx
  exact codeAny_compStart_dict loop (T.self X.A 0 _ _ _ st4 loop)
/-- the value -/
theorem pe_dcT {kx vx tg iter : Expr} {ifs : List Expr} {scope : Scope} {own : List (Str × Nat)} {pos : Pos} {wi : TI} {g : TG} {tt : TT} {tk tv : TE} (hua : X.A.units < cLine) (hc : X.calm = true) (hN : X.N.Nodup) (hi : PI X tg iter wi) (ok : BlkOk X.N X.env.scope scope own)
    (hg : ∀ (sh : Shared) (G : Hp) (C : Addr) (cl : List (Str × Addr)) (fp : List Addr), PG (X.blk sh G scope (compEnvC scope cl C X.env) fp) tg g) (ht : ∀ (sh : Shared) (G : Hp) (C : Addr) (cl : List (Str × Addr)) (fp : List Addr), PTs (X.blk sh G scope (compEnvC scope cl C X.env) fp) ifs tt)
    (hk : ∀ (sh : Shared) (G : Hp) (C : Addr) (cl : List (Str × Addr)) (fp : List Addr), PE (X.blk sh G scope (compEnvC scope cl C X.env) fp) kx tk)
    (he : ∀ (sh : Shared) (G : Hp) (C : Addr) (cl : List (Str × Addr)) (fp : List Addr), PE (X.blk sh G scope (compEnvC scope cl C X.env) fp) vx tv) (hs : ∀ x, foldedSetIterable iter X.env x = pure x := by intro _; rfl) :
    PE X (.DictComp kx vx [⟨tg, iter, ifs, 0⟩] scope pos) (tDcT wi g tt tk tv (own.map (·.2))) := by
  refine ⟨fun pins sh σ G Q Z h => ?_⟩
  rw [arm_eval_DictComp]
  refine dcT_core hua hc hN Z hi ok hg ht hk he hs h fun D C sh' m G' Z' q hn f => ⟨m, hn, fun h'' sb => ?_⟩
  obtain ⟨f0, f1, f2, f3, f4, f5⟩ := f
  exact ⟨.ref D, G', Z'.turned (t' := sh'.toks) (fun b o hb e => (sb.2 b hb).trans e) f0 f1 f3 f4 f5, rfl, q⟩
end
end L2

namespace DL
open PySem PySem.Spec PyProof.Rows L2

/-! ### {k: e for k in table} -/
section
variable {K : PySem.W.Frag} {S : SS} {σ : L2.St} {H H1 : Hp}
def DcP (K : PySem.W.Frag) (S : SS) (σ : L2.St) (vs : List Nat) (H1 : Hp) (D : Addr) (acc : List ((Int × Int) × PyData)) (H' : Hp) : Prop := SA K ⟨S.now H1, S.os0, (D, .mT acc) :: S.mu, wipeS S.rho vs⟩ (wipe σ vs) H' ∧ Stp S.os H1 H' ∧ H1 D = none
theorem DcP.start {vs : List Nat} {D : Addr} (s : SA K S σ H1) (hD : H1 D = none) : DcP K S σ vs H1 D [] (upd H1 D (.dT [])) := by
  have s0 : SA K ⟨S.now H1, S.os0, S.mu, wipeS S.rho vs⟩ (wipe σ vs) H1 := ⟨s.rebase.stp, s.rebase.dom, s.nd, s.rebase.new, s.mok, s.env.wipe vs⟩
  exact ⟨s0.own (m := .mT []) hD ⟨[], upd_same, .nil⟩, Stp.new hD, hD⟩
theorem osD {S : SS} {D : Addr} {m : MO} {Hb : Hp} {ρ : List SD} : ∀ a, a ∈ S.os → a ∈ SS.os ⟨Hb, S.os0, (D, m) :: S.mu, ρ⟩ := fun a m => by
  rcases List.mem_append.mp m with m | m
  · exact List.mem_append_left _ (List.mem_cons_of_mem _ m)
  · exact List.mem_append_right _ m
theorem DcP.done {vs : List Nat} {D : Addr} {acc : List ((Int × Int) × PyData)} {H' : Hp} {Q : VK} (s : SA K S σ H1) (p : DcP K S σ vs H1 D acc H') (q : Want K S (.dict (kvE acc)) H1 Q) : Q (.ref D) H' := by
  obtain ⟨sa, st, hD⟩ := p
  obtain ⟨xs, h1, h2⟩ := sa.mok _ List.mem_cons_self
  refine q _ _ st (.dct (.inl ?_) (h2.mono (hid_sub osD)).kv)
  rw [hid_out (s.fresh hD)]
  exact h1
end
theorem put_new {l : List ((Int × Int) × PyData)} {k : Int × Int} {d : PyData} (h : k ∉ l.map (·.1)) : put l k d = l ++ [(k, d)] := by
  unfold put
  rw [if_neg]
  intro e
  obtain ⟨x, hx, e⟩ := List.any_eq_true.mp e
  exact h (List.mem_map.mpr ⟨x, hx, by simpa using e⟩)
section
variable {X : Cx} {S : SS} {e a b c o : Expr} {d d1 d2 d3 : PyData} {pos : Pos} {D : Ends} {rest : List Stmt}
theorem ve_dcT {kx vx iter : Expr} {x : Str} {tp : Pos} {scope : Scope} {own : List (Str × Nat)} {l : List ((Int × Int) × PyData)} (i : Nat) (g : Int × Int → PyData) (hua : X.A.units < cLine) (hi : VE X S iter (.dict (kvE l))) (ok : BlkOk X.N X.env.scope scope own) (nd : (l.map (·.1)).Nodup) (hl : l.length ≤ 1000000)
    (hg : ∀ (s : Shared) (H : Hp) (C : Addr) (cl : List (Str × Addr)) (fp : List Addr), PG (X.blk s H scope (compEnvC scope cl C X.env) fp) (.Name x tp) ((Tg.nm i).g X.K))
    (hb : ∀ (Hb : Hp) (Da : Addr) (acc : List ((Int × Int) × PyData)) (y : Int × Int), Stp S.os0 S.H0 Hb → y ∈ l.map (·.1) → ∀ s H C cl fp, VE (X.blk s H scope (compEnvC scope cl C X.env) fp) ⟨Hb, S.os0, (Da, .mT acc) :: S.mu, (wipeS S.rho (own.map (·.2))).set i (.dat (stD y))⟩ kx (stD y) ∧
      VE (X.blk s H scope (compEnvC scope cl C X.env) fp) ⟨Hb, S.os0, (Da, .mT acc) :: S.mu, (wipeS S.rho (own.map (·.2))).set i (.dat (stD y))⟩ vx (g y))
    (hc : X.calm = true) (hN : X.N.Nodup) (hix : i ∈ own.map (·.2)) (hs : ∀ x, foldedSetIterable iter X.env x = pure x := by intro _; rfl) :
    VE X S (.DictComp kx vx [⟨.Name x tp, iter, [], 0⟩] scope pos) (.dict (kvE (l.map fun x => (x.1, g x.1)))) := by
  refine PEimp (pe_dcT hua hc hN (pi_keysR hi) ok hg (fun s H C cl fp => pts_nil) (tk := tEl X.K fun S' y => ∀ s H C cl fp, VE (X.blk s H scope (compEnvC scope cl C X.env) fp) S' kx y) (tv := tEl X.K fun S' y => ∀ s H C cl fp, VE (X.blk s H scope (compEnvC scope cl C X.env) fp) S' vx y)
    (fun s H C cl fp => pe_el fun S' y z => z s H C cl fp) (fun s H C cl fp => pe_el fun S' y z => z s H C cl fp) hs) fun σ H Q ⟨s, q⟩ => ⟨s, fun v H1 s1 i1 => ?_⟩
  obtain ⟨p, kvs, rfl, h1, h2⟩ := i_dct i1
  have sn := s.step s1
  have nos : p ∉ S.os := by
    rcases h1 with h1 | ⟨_, h1⟩
    · exact (hid_some h1).1
    · exact (hid_some h1).1
  -- from the locked heap
  have core : ∀ {H2 : Hp} {ob : Obj}, SA X.K S σ H2 → IsM kT X.K (hid S.os H2) kvs l → H2 p = some (.frz ob (.dT kvs)) → Want X.K S (.dict (kvE (l.map fun x => (x.1, g x.1)))) H2 Q → ∀ D, H2 D = none → ∃ W : Nat → Nat → Hp → Prop, (∃ m, W 0 m (upd H2 D (.dT []))) ∧ ∀ j m H, W j m H →
      ((Itkt p ob kvs).stop j H ∧ Q (.ref D) H) ∨ ((Itkt p ob kvs).go j H ∧ ∃ Nx : Hp → Prop, (∀ H', Nx H' → ∃ m', m' < m ∧ W (j + 1) m' H') ∧ ∀ x H', (Itkt p ob kvs).yld j H x H' → (Tg.nm i).g X.K x (wipe σ (own.map (·.2))) H' fun σ2 H2 => wipe σ2 (own.map (·.2)) = wipe σ (own.map (·.2)) ∧ tYes σ2 H2 fun b H3 =>
        if b = true then tEl X.K (fun S' y => ∀ s H C cl fp, VE (X.blk s H scope (compEnvC scope cl C X.env) fp) S' kx y) σ2 H3 fun y H4 => tEl X.K (fun S' y => ∀ s H C cl fp, VE (X.blk s H scope (compEnvC scope cl C X.env) fp) S' vx y) σ2 H4 fun z H5 =>
          ∃ kvs k bt, y = .ref bt ∧ H5 bt = some (.tup (k.map kV)) ∧ H5 D = some (.dT kvs) ∧ kvs.length < sizeLine ∧ Nx (upd H5 D (.dT (putK kvs k z))) else Nx H3) := by
    intro H2 ob s2 m2 hf q2 D hD
    refine ⟨fun j m H' => m = kvs.length - j ∧ j ≤ kvs.length ∧ DcP X.K S σ (own.map (·.2)) H2 D ((l.take j).map fun x => (x.1, g x.1)) H', ⟨kvs.length, by simp, Nat.zero_le _, DcP.start s2 hD⟩, ?_⟩
    rintro j m H' ⟨rfl, hj, P⟩
    have hfr : H' p = some (.frz ob (.dT kvs)) := P.2.1.ext.exact hf (fun _ z => nomatch z) fun _ _ _ z => nomatch z
    rcases Nat.lt_or_ge j kvs.length with hlt | hge
    · refine .inr ⟨⟨hfr, hlt⟩, DcP X.K S σ (own.map (·.2)) H2 D ((l.take (j + 1)).map fun x => (x.1, g x.1)), fun H3 z => ⟨kvs.length - (j + 1), by omega, rfl, hlt, z⟩, fun x H3 y => ?_⟩
      obtain ⟨e, k, v, t, y1, y2, y3⟩ := y
      subst e y2
      obtain ⟨sa, st, _⟩ := P
      obtain ⟨k', dy, e1, rfl, _⟩ := m2.get y1
      have kin : k' ∈ l.map (·.1) := List.mem_map.mpr ⟨_, List.mem_of_getElem? e1, rfl⟩
      have hv := hb (S.now H2) D ((l.take j).map fun x => (x.1, g x.1)) k' s2.nowStp kin
      refine Tg.run (t := .nm i) (d := stD k') rfl (.key (by rw [hid_out (sa.tupOut y3)]; exact y3)) sa.env fun σ3 e3 w3 => ⟨by rw [w3 _ (fun z hz => by rw [List.mem_singleton.mp hz]; exact hix), wipe_idem], ?_⟩
      have s3 : SA X.K ⟨S.now H2, S.os0, (D, .mT ((l.take j).map fun x => (x.1, g x.1))) :: S.mu, (wipeS S.rho (own.map (·.2))).set i (.dat (stD k'))⟩ σ3 _ := ⟨sa.stp, sa.dom, sa.nd, sa.new, sa.mok, e3⟩
      show tEl X.K _ σ3 _ _
      refine ⟨_, stD k', fun s H C cl fp => (hv s H C cl fp).1, s3, fun vk H4 s4 i4 => ⟨_, g k', fun s H C cl fp => (hv s H C cl fp).2, s3.step s4, fun vv H5 s5 i5 => ?_⟩⟩
      obtain ⟨bt, rfl, hbt⟩ := i_key (i4.mono s5.ext.hid)
      have sa5 := sa.step (s4.trans s5)
      obtain ⟨kvs', n1, n2⟩ := sa5.mok _ List.mem_cons_self
      have hl2 : kvs'.length < sizeLine := by
        rw [n2.len, List.length_map, List.length_take]
        have e : sizeLine = 16777216 := by decide
        omega
      have nw : k' ∉ ((l.take j).map fun x => (x.1, g x.1)).map (·.1) := by
        rw [List.map_map]
        intro hm
        obtain ⟨z, hz, ez⟩ := List.mem_map.mp hm
        obtain ⟨n, hn⟩ := List.getElem?_of_mem hz
        rw [List.getElem?_take] at hn
        split at hn
        · rename_i hnj
          have a1 : (l.map (·.1))[n]? = some k' := by rw [List.getElem?_map, hn]; exact congrArg some ez
          have a2 : (l.map (·.1))[j]? = some k' := by rw [List.getElem?_map, e1]; rfl
          have := nd_ix nd a1 a2
          omega
        · cases hn
      have e2 : put ((l.take j).map fun x => (x.1, g x.1)) k' (g k') = (l.take (j + 1)).map fun x => (x.1, g x.1) := by
        rw [put_new nw, List.take_add_one, e1, List.map_append]
        rfl
      refine ⟨kvs', kT k', bt, rfl, (hid_some hbt).2, n1, hl2, ?_⟩
      rw [← e2]
      have M := sa5.mut (j := 0) (o := .dT (putK kvs' (kT k') vv)) (m' := .mT (put _ k' (g k'))) rfl ⟨_, upd_same, n2.put kT_inj k' i5⟩
      exact ⟨M, (st.trans ((s4.trans s5).sub osD)).mutNew hD, hD⟩
    · have e : j = kvs.length := by omega
      subst e
      refine .inl ⟨⟨hfr, Nat.le_refl _⟩, ?_⟩
      have e2 : l.take kvs.length = l := List.take_of_length_le (by rw [m2.len]; exact Nat.le_refl _)
      rw [e2] at P
      exact P.done s2 q2
  have q1 := Want.later q s1
  rcases h1 with h1 | ⟨ob, h1⟩
  · refine ⟨p, kvs, rfl, .inr ⟨(hid_some h1).2, fun ob D hD => ?_⟩⟩
    have st := Stp.lock (o := ob) (hid_some h1).2 nos
    exact core (sn.step st) (h2.mono st.ext.hid) upd_same (Want.later q1 st) D hD
  · exact ⟨p, kvs, rfl, .inl ⟨ob, (hid_some h1).2, fun D hD => core sn h2 (hid_some h1).2 q1 D hD⟩⟩
end
end DL

namespace DL
open PySem PySem.Spec PyProof.Rows L2

/-! ### isinstance of ints and tuples -/
theorem is_tyI {K : PySem.W.Frag} {os : List Addr} {H : Hp} {v : V} {i : Int} (h : Is K (hid os H) v (.int i)) : TyX K H v (.type "int") := by
  rw [i_int h]
  exact .base (.int i)
theorem is_tyT {K : PySem.W.Frag} {os : List Addr} {H : Hp} {v : V} {ds : List PyData} (h : Is K (hid os H) v (.tuple ds)) : TyX K H v (.type "tuple") := by
  obtain ⟨a, xs, rfl, h1, _⟩ := i_tup h
  rcases h1 with (h1 | ⟨o, h1⟩) | ⟨o, its, n, h1, h2, _⟩
  · exact .base (.tup (hid_some h1).2)
  · exact .fTuple (hid_some h1).2
  · exact .kTuple h1 h2
section
variable {X : Cx} {S : SS} {e a b c o : Expr} {d d1 d2 d3 : PyData} {pos : Pos} {D : Ends} {rest : List Stmt}
theorem ve_isi {x : Str} {p p2 : Pos} {T U : String} {k : Bool} (hm : X.mg "isinstance" = none) (hm2 : X.mg x = none) (hv : bootBuiltins x = some (.type T)) (ha : VE X S a d) (ht : ∀ {os H v}, Is X.K (hid os H) v d → TyX X.K H v (.type U)) (hk : kitB U T = some k) (hg : Gl X "isinstance" := by rfl) (hg2 : Gl X x := by rfl) (hn : x ≠ "__name__" := by decide) (hd : (x == ("__debug__" : Str)) = false := by decide)
    (he : starEach [a, .Name x p2] X.env = (false, eval a X.env) :: starEach [.Name x p2] X.env := by rfl) (he2 : starEach [.Name x p2] X.env = (false, eval (.Name x p2) X.env) :: starEach [] X.env := by rfl) (hpl : (backTo pos (starEach [.Name x p2] X.env)).any (·.1) = false := by rfl) :
    VE X S (.Call (.Name "isinstance" p) [a, .Name x p2] [] pos) (.bool k) :=
  PEimp (pe_callB call_isi hg hm boot_isinstance (pa_cons ha (pa_cons (pe_bltn (v := .ty T) hg2 hm2 hv rfl hn hd) pa_nil he2) he) (by decide) (by decide) he hpl) fun σ H Q ⟨s, q⟩ => ⟨s, fun v H1 s1 i1 => ⟨v, .ty T, .type U, .type T, k, rfl, .ty T, ht i1, kit_ty hk, q _ H1 s1 (.bl _)⟩⟩
/-! ### a range as a value -/
theorem cr_rangeV : CallR X (.type "range") (fun vs H Q => ∃ i, vs = [V.int i] ∧ ∀ p, H p = none → Q (.ref p) (upd H p (.rng 0 i))) := by
  intro pins s σ H vs us Q I r h
  obtain ⟨i, rfl, q⟩ := h
  cases r with
  | cons ri rr =>
    cases rr
    obtain ⟨t, rfl⟩ := ri
    refine call_range_1 ⟨.ref s.heap.objs.size, upd H s.heap.objs.size (.rng 0 i), I.laid (t' := s.toks + 1 + 1) (fun b o e => Heap.get?_push_of_some _ e) (Nat.le_refl _) ?_, rfl, q _ (I.hok.fresh (Nat.le_refl _))⟩
    exact ⟨_, _, _, Heap.get?_push_size _ rfl⟩
theorem ve_rangeV {n : Int} {p : Pos} (hm : X.mg "range" = none) (ha : VE X S e (.int n)) (hg : Gl X "range" := by rfl) (he : starEach [e] X.env = [(false, eval e X.env)] := by rfl) :
    VE X S (.Call (.Name "range" p) [e] [] pos) (.dict [(.none, .int n)]) :=
  ve_callTy cr_rangeV hm boot_range (va_cons ha va_nil he) (fun vs σ H Q s is q => by
    obtain ⟨v, rfl, h⟩ := all1 is
    refine ⟨n, by rw [i_int h], fun p hp => q _ _ (Stp.new hp) ?_⟩
    rw [hid_upd_out (s.fresh hp)]
    exact .rng upd_same) hg (by decide) (by decide) he rfl
def iRngV (te : TE) : TI := fun σ H R => te σ H fun x H1 => ∃ (a : Addr) (n : Nat), x = .ref a ∧ H1 a = some (.rng 0 (n : Int)) ∧ n < 2 ^ 62 ∧ R (Itr 0 n) H1
theorem pi_rngV {tg : Expr} {te : TE} (he : PE X e te) : PI X tg e (iRngV te) := by
  refine ⟨fun pins s σ H R I h => ?_⟩
  refine thn (he.run pins s σ H _ I h) fun v s1 ⟨x, H1, I1, r1, a, n, e1, hr, hn, q⟩ => ?_
  subst e1
  cases r1
  obtain ⟨t, u, v, hr⟩ := I1.hok a _ hr
  refine wpAny_pyIter_range hr (small_one (by omega) (by omega) (by omega) (by omega)) (pi_one (tk := s1.toks) I1 _ (turn_range _ 0 n) ?_ q)
  have e1 : (0 : Int) + ((0 : Nat) : Int) * 1 = 0 := by simp
  have e2 : ((n : Nat) : Int) - ((0 : Nat) : Int) = Builtin.Range.rangeSize 0 (n : Int) 1 := by rw [rangeSize_one]; split <;> omega
  show IsRangeIter _ _ (0 + ((0 : Nat) : Int) * 1) (((n : Nat) : Int) - ((0 : Nat) : Int)) 1
  rw [e1, e2]
  exact Heap.get?_push_size _ rfl
theorem rngV_of {n : Nat} {σ : L2.St} {H : Hp} {R : It → Hp → Prop} (hn : n < 2 ^ 62) (h : iRng1 (tDA X.K S [.int (n : Int)]) σ H R) : iRngV (tD X.K S (.dict [(.none, .int (n : Int))])) σ H R := by
  obtain ⟨s, q⟩ := h
  refine ⟨s, fun v H1 s1 i1 => ?_⟩
  obtain ⟨a, rfl, hr⟩ := i_rng i1
  obtain ⟨j, e, _, _, q⟩ := q [.int (n : Int)] H1 s1 (.cons (.int _) .nil)
  injection e with e _
  injection e with e
  subst e
  exact ⟨a, n, rfl, (hid_some hr).2, hn, q⟩
theorem ve_lcV {elt iter : Expr} {ifs : List Expr} {scope : Scope} {own : List (Str × Nat)} {x : Str} {tp : Pos} (i n : Nat) (p : Nat → Bool) (g : Nat → PyData) (ha : VE X S iter (.dict [(.none, .int (n : Int))])) (ok : BlkOk X.N X.env.scope scope own) (hgt : ∀ (s : Shared) (H : Hp) (C : Addr) (cl : List (Str × Addr)) (fp : List Addr), PG (X.blk s H scope (compEnvC scope cl C X.env) fp) (.Name x tp) ((Tg.nm i).g X.K))
    (hb : LcHR X S scope (own.map (·.2)) i elt ifs n p g) (hl : n ≤ 1000000) (hc : X.calm = true) (hN : X.N.Nodup) (hix : i ∈ own.map (·.2)) (hs : ∀ y, foldedSetIterable iter X.env y = pure y := by intro _; rfl) :
    VE X S (.ListComp elt [⟨.Name x tp, iter, ifs, 0⟩] scope pos) (.list (((List.range n).filter p).map g)) :=
  PEimp (pe_lc hc hN (pi_rngV ha) ok hgt (fun s H C cl fp => pts_el fun S' b z => z s H C cl fp) (fun s H C cl fp => pe_el fun S' y z => z s H C cl fp) hs) fun σ H Q ⟨s, q⟩ => rngV_of (by omega) (lchR_read hb hl hix s q)
/-! ### [e for .. in xs for .. in ys] -/
def Lc2P (K : PySem.W.Frag) (S : SS) (σ σ2 : L2.St) (vs vs1 : List Nat) (ρ2 : List SD) (H1 : Hp) (Da : Addr) (acc : List PyData) (H' : Hp) : Prop :=
  LcP K S σ vs H1 Da acc H' ∧ SA K (S.blk (S.now H1) Da acc (wipeS ρ2 vs1)) (wipe σ2 vs1) H'
def out2 {α β : Type} (xs : List α) (ys : List β) (g : α → β → PyData) (k : Nat) : List PyData := (xs.take k).flatMap fun x => ys.map (g x)
theorem ve_lc2 {α β : Type} {elt tg iter tg1 iter1 : Expr} {scope : Scope} {own : List (Str × Nat)} (vs1 : List Nat) (t t1 : Tg) (xs : List α) (enc : α → PyData) (ys : List β) (enc1 : β → PyData) (g : α → β → PyData) (hi : VE X S iter (.list (xs.map enc))) (ok : BlkOk X.N X.env.scope scope own)
    (hv : ∀ i ∈ vs1, i ∈ own.map (·.2)) (hg : ∀ (s : Shared) (H : Hp) (C : Addr) (cl : List (Str × Addr)) (fp : List Addr), PG (X.blk s H scope (compEnvC scope cl C X.env) fp) tg (t.g X.K)) (hg1 : ∀ (s : Shared) (H : Hp) (C : Addr) (cl : List (Str × Addr)) (fp : List Addr), PG (X.blk s H scope (compEnvC scope cl C X.env) fp) tg1 (t1.g X.K))
    (hb : ∀ (Hb : Hp) (Da : Addr) (acc : List PyData) (x : α), Stp S.os0 S.H0 Hb → x ∈ xs → ∃ ρ', t.put (enc x) (wipeS S.rho (own.map (·.2))) = some ρ' ∧ (∀ s H C cl fp, VE (X.blk s H scope (compEnvC scope cl C X.env) fp) (S.blk Hb Da acc ρ') iter1 (.list (ys.map enc1))) ∧
      ∀ acc' y, y ∈ ys → ∃ ρ2, t1.put (enc1 y) (wipeS ρ' vs1) = some ρ2 ∧ ∀ s H C cl fp, VE (X.blk s H scope (compEnvC scope cl C X.env) fp) (S.blk Hb Da acc' ρ2) elt (g x y))
    (hl : xs.length * ys.length ≤ 1000000) (hc : X.calm = true) (hN : X.N.Nodup) (hix : ∀ i ∈ t.ix, i ∈ own.map (·.2)) (hix1 : ∀ i ∈ t1.ix, i ∈ vs1) (hs : ∀ x, foldedSetIterable iter X.env x = pure x := by intro _; rfl) (hs1 : ∀ env x, foldedSetIterable iter1 env x = pure x := by intro _ _; rfl) :
    VE X S (.ListComp elt [⟨tg, iter, [], 0⟩, ⟨tg1, iter1, [], 0⟩] scope pos) (.list (xs.flatMap fun x => ys.map (g x))) := by
  refine PEimp (pe_lc2 (vs1 := vs1) (wi1 := iList X.K (tEl X.K fun S' y => ∀ s H C cl fp, VE (X.blk s H scope (compEnvC scope cl C X.env) fp) S' iter1 y)) (te := tEl X.K fun S' y => ∀ s H C cl fp, VE (X.blk s H scope (compEnvC scope cl C X.env) fp) S' elt y) hc hN (pi_list hi) ok hv hg (fun s H C cl fp => pts_nil)
    (fun s H C cl fp => pi_list (pe_el fun S' y z => z s H C cl fp)) hg1 (fun s H C cl fp => pts_nil) (fun s H C cl fp => pe_el fun S' y z => z s H C cl fp) hs hs1) fun σ H Q ⟨s, q⟩ => ⟨s, fun v H1 s1 i1 => ?_⟩
  obtain ⟨p, zs, rfl, h1, h2⟩ := i_lst i1
  have sn := s.step s1
  have e1 : hid S.os0 (S.now H1) = hid S.os H1 := hid_hid
  rw [← e1] at h1 h2
  have hlen : zs.length = xs.length := by rw [h2.len, List.length_map]
  refine ⟨p, rfl, ⟨zs, hid_ext.l (hid_ext.l h1)⟩, fun Da hD => ?_⟩
  refine ⟨fun k m H' => m = xs.length - k ∧ k ≤ xs.length ∧ LcP X.K S σ (own.map (·.2)) H1 Da (out2 xs ys g k) H', ⟨xs.length, by simp, Nat.zero_le _, LcP.start sn hD⟩, ?_⟩
  rintro k m H' ⟨rfl, hk, P⟩
  have hq : SqL X.K H' p zs := hid_ext.l (P.1.base.l h1)
  rcases Nat.lt_or_ge k xs.length with hlt | hge
  · refine .inr ⟨⟨zs, zs[k]'(by omega), hq, by simp⟩, LcP X.K S σ (own.map (·.2)) H1 Da (out2 xs ys g (k + 1)), fun H3 z => ⟨xs.length - (k + 1), by omega, rfl, hlt, z⟩, fun x H3 y => ?_⟩
    obtain ⟨e, y⟩ := y
    subst e
    obtain ⟨d', hd', id'⟩ := h2.getV (y zs hq)
    rw [List.getElem?_map] at hd'
    cases ex : xs[k]? with
    | none => rw [ex] at hd'; cases hd'
    | some xv =>
    rw [ex] at hd'
    cases hd'
    have xin : xv ∈ xs := List.mem_of_getElem? ex
    obtain ⟨ρ', hp, hit, hin⟩ := hb (S.now H1) Da (out2 xs ys g k) xv sn.nowStp xin
    obtain ⟨sa, st, hD'⟩ := P
    refine Tg.run hp (sa.is id') sa.env fun σ2 e2 w2 => ⟨by rw [w2 _ hix, wipe_idem], ?_⟩
    unfold tYes
    dsimp only
    rw [if_pos rfl]
    have s2 : SA X.K (S.blk (S.now H1) Da (out2 xs ys g k) ρ') σ2 _ := ⟨sa.stp, sa.dom, sa.nd, sa.new, sa.mok, e2⟩
    refine ⟨_, _, hit, s2, fun vl H4 s4 i4 => ?_⟩
    obtain ⟨p1, zs1, rfl, g1, g2⟩ := i_lst i4
    have sub : ∀ a, a ∈ S.os → a ∈ (S.blk (S.now H1) Da (out2 xs ys g k) ρ').os := fun a m => by
      rcases List.mem_append.mp m with m | m
      · exact List.mem_append_left _ (List.mem_cons_of_mem _ m)
      · exact List.mem_append_right _ m
    have sa4 : SA X.K (S.blk (S.now H1) Da (out2 xs ys g k) (wipeS S.rho (own.map (·.2)))) (wipe σ (own.map (·.2))) H4 := sa.step s4
    have s24 := s2.step s4
    have st4 := st.trans (s4.sub sub)
    have hlen1 : zs1.length = ys.length := by rw [g2.len, List.length_map]
    -- the inner walk
    let Hh := hid (S.blk (S.now H1) Da (out2 xs ys g k) ρ').os H4
    have accl : ∀ j, j ≤ ys.length → (out2 xs ys g k ++ (ys.take j).map (g xv)).length < sizeLine := fun j hj => by
      have e : sizeLine = 16777216 := by decide
      have l1 : ∀ (zs : List α), (zs.flatMap fun x => ys.map (g x)).length = zs.length * ys.length := by
        intro zs
        induction zs with
        | nil => simp
        | cons z zs ih =>
          rw [List.flatMap_cons, List.length_append, ih, List.length_map, List.length_cons, Nat.add_mul, Nat.one_mul, Nat.add_comm]
      have l2 : (out2 xs ys g k).length ≤ xs.length * ys.length := by
        unfold out2
        rw [l1, List.length_take]
        exact Nat.mul_le_mul_right _ (Nat.min_le_right _ _)
      have l3 : ys.length ≤ xs.length * ys.length := Nat.le_mul_of_pos_left _ (by omega)
      rw [List.length_append, List.length_map, List.length_take]
      omega
    refine ⟨p1, rfl, ⟨zs1, hid_ext.l g1⟩, fun j m H' => m = ys.length - j ∧ j ≤ ys.length ∧ Lc2P X.K S σ σ2 (own.map (·.2)) vs1 ρ' H1 Da (out2 xs ys g k ++ (ys.take j).map (g xv)) H' ∧ Ext Hh H', ⟨ys.length, by simp, Nat.zero_le _, ⟨⟨?_, st4, hD'⟩, ?_⟩, hid_ext⟩, ?_⟩
    · rw [List.take_zero, List.map_nil, List.append_nil]; exact sa4
    · rw [List.take_zero, List.map_nil, List.append_nil]
      exact ⟨s24.stp, s24.dom, s24.nd, s24.new, s24.mok, s24.env.wipe vs1⟩
    · rintro j m H5 ⟨rfl, hj, ⟨⟨sa5, st5, _⟩, in5⟩, ex5⟩
      have hq1 : SqL X.K H5 p1 zs1 := ex5.l g1
      rcases Nat.lt_or_ge j ys.length with hlt1 | hge1
      · refine .inr ⟨⟨zs1, zs1[j]'(by omega), hq1, by simp⟩, fun H' => Lc2P X.K S σ σ2 (own.map (·.2)) vs1 ρ' H1 Da (out2 xs ys g k ++ (ys.take (j + 1)).map (g xv)) H' ∧ Ext Hh H', fun H6 z => ⟨ys.length - (j + 1), by omega, rfl, hlt1, z.1, z.2⟩, fun x H6 y => ?_⟩
        obtain ⟨e, y⟩ := y
        subst e
        obtain ⟨d1, hd1, id1⟩ := g2.getV (y zs1 hq1)
        rw [List.getElem?_map] at hd1
        cases ey : ys[j]? with
        | none => rw [ey] at hd1; cases hd1
        | some yv =>
        rw [ey] at hd1
        cases hd1
        obtain ⟨ρ2, hp2, he2⟩ := hin (out2 xs ys g k ++ (ys.take j).map (g xv)) yv (List.mem_of_getElem? ey)
        have id2 : Is X.K (hid (S.blk (S.now H1) Da (out2 xs ys g k ++ (ys.take j).map (g xv)) (wipeS ρ' vs1)).os H6) x (enc1 yv) := by
          refine id1.mono fun a o ha => ?_
          obtain ⟨m1, m2⟩ := hid_some ha
          obtain ⟨u, q1, q2⟩ := ex5 a o ha
          exact ⟨u, by rw [hid_out]; exact q1; exact m1, q2⟩
        refine Tg.run hp2 id2 in5.env fun σ3 e3 w3 => ⟨by rw [w3 _ hix1, wipe_idem], ?_⟩
        dsimp only
        rw [if_pos rfl]
        have s3 : SA X.K (S.blk (S.now H1) Da (out2 xs ys g k ++ (ys.take j).map (g xv)) ρ2) σ3 H6 := ⟨in5.stp, in5.dom, in5.nd, in5.new, in5.mok, e3⟩
        refine ⟨_, _, he2, s3, fun vy H7 s7 i7 => ?_⟩
        have sa7 := sa5.step s7
        have in7 := in5.step s7
        obtain ⟨as, n1, n2⟩ := sa7.mok _ List.mem_cons_self
        have hD4 : Hh Da = none := hid_in (List.mem_append_left _ List.mem_cons_self)
        refine ⟨as, n1, ?_, ?_, ?_⟩
        · rw [n2.len]
          exact accl j (by omega)
        · have ea : out2 xs ys g k ++ (ys.take (j + 1)).map (g xv) = out2 xs ys g k ++ (ys.take j).map (g xv) ++ [g xv yv] := by
            rw [List.take_add_one, ey, List.map_append, List.append_assoc]
            rfl
          rw [ea]
          have M1 := sa7.mut (j := 0) (m' := .ml (out2 xs ys g k ++ (ys.take j).map (g xv) ++ [g xv yv])) (o := .lst (as ++ [vy])) rfl ⟨as ++ [vy], upd_same, n2.app (.cons i7 .nil)⟩
          have M2 := in7.mut (j := 0) (m' := .ml (out2 xs ys g k ++ (ys.take j).map (g xv) ++ [g xv yv])) (o := .lst (as ++ [vy])) rfl ⟨as ++ [vy], upd_same, n2.app (.cons i7 .nil)⟩
          exact ⟨⟨M1, (st5.trans (s7.sub sub)).mutNew hD', hD'⟩, M2⟩
        · intro a o ha
          have hne : a ≠ Da := fun z => by rw [z, hD4] at ha; cases ha
          rw [upd_ne hne]
          exact (ex5.trans s7.ext) a o ha
      · have e : j = ys.length := by omega
        subst e
        refine .inl ⟨⟨zs1, hq1, by omega⟩, ?_⟩
        have ea : out2 xs ys g (k + 1) = out2 xs ys g k ++ (ys.take ys.length).map (g xv) := by
          unfold out2
          rw [List.take_add_one, ex, List.flatMap_append, List.take_length]
          simp
        rw [ea]
        exact ⟨sa5, st5, hD'⟩
  · have e : k = xs.length := by omega
    subst e
    refine .inl ⟨⟨zs, hq, by omega⟩, ?_⟩
    have ea : out2 xs ys g xs.length = xs.flatMap fun x => ys.map (g x) := by unfold out2; rw [List.take_length]
    rw [ea] at P
    exact P.done sn (Want.later q s1)
end
end DL

namespace DL
open PySem PySem.Spec PyProof.Rows L2

/-! ### methods that may change their instance's count -/
def spX (K : PySem.W.Frag) (C : Addr) (R : Int → PyData → PyData → PyData → List PyData → PyData → Prop) : Sp := fun vs H Q _ => ∃ (os : List Addr) (p : Addr) (n : Int) (hs pl ch : PyData) (vs' : List V) (ds : List PyData) (d : PyData), vs = .ref p :: vs' ∧
  (∀ a ∈ os, ∃ o, H a = some o ∧ NT o) ∧ SpanAt K C H (p :: os) p n hs pl ch ∧ p ∉ os ∧ IsAll K (hid (p :: os) H) vs' ds ∧ R n hs pl ch ds d ∧ ∀ v H', Stp os H H' → Is K (hid os H') v d → Q v H'
structure DX (P : Program) (w : World) (K : PySem.W.Frag) (mg : Str → Option Value) (base : Heap) (C : Addr) (m : Str) (k : Nat) (R : Int → PyData → PyData → PyData → List PyData → PyData → Prop) : Prop where
  ex : ∃ f fd ps, Meth K C m f ∧ Binds K fd ps [] ∧ FnOk P w K mg base CX0 k f fd ps (spX K C R)
  nm : (fs4 .non .non .non 0).lookup m = none
theorem DX.up {P : Program} {w : World} {K : PySem.W.Frag} {mg : Str → Option Value} {base : Heap} {C : Addr} {m : Str} {j k : Nat} {R : Int → PyData → PyData → PyData → List PyData → PyData → Prop} (h : DX P w K mg base C m j R) (l : j ≤ k) : DX P w K mg base C m k R := by
  obtain ⟨f, fd, ps, h1, h2, h3⟩ := h.ex
  exact ⟨⟨f, fd, ps, h1, h2, h3.mono l⟩, h.nm⟩
theorem DM.up {P : Program} {w : World} {K : PySem.W.Frag} {mg : Str → Option Value} {base : Heap} {C : Addr} {m : Str} {j k : Nat} {R : Int → PyData → PyData → PyData → List PyData → PyData → Prop} (h : DM P w K mg base C m j R) (l : j ≤ k) : DM P w K mg base C m k R := by
  obtain ⟨f, fd, ps, h1, h2, h3⟩ := h.ex
  exact ⟨⟨f, fd, ps, h1, h2, h3.mono l⟩, h.nm⟩
theorem SpanAt.at0 {K : PySem.W.Frag} {C : Addr} {H : Hp} {os : List Addr} {p : Addr} {n : Int} {hs pl ch : PyData} (h : SpanAt K C H os p n hs pl ch) : ∃ o, H p = some o ∧ NT o := by
  obtain ⟨dx, vh, vp, vc, h1, _⟩ := h
  exact ⟨_, h1, trivial⟩
theorem dx_mk {P : Program} {w : World} {K : PySem.W.Frag} {mg : Str → Option Value} {base : Heap} {C : Addr} {m qual : Str} {st : Stmt} {f : Addr} {fd : FuncData} {N ps : List Str} {k : Nat} {R : Int → PyData → PyData → PyData → List PyData → PyData → Prop} (hm : Meth K C m f) (F : Fun K m qual st f fd)
    (S : FnScope N ps (defScope st)) (hb : Binds K fd ps []) (nm : (fs4 .non .non .non 0).lookup m = none) (hlen : ∀ n hs pl ch ds d, R n hs pl ch ds d → ds.length + 1 = ps.length)
    (hbody : ∀ (cdv : Value) (A : Around) (outer : List Env) (s : Shared) (H : Hp) (E : XK) (os : List Addr) (p : Addr) (n : Int) (hs pl ch : PyData) (ds : List PyData) (d : PyData), Room k (A.deeper (envOfC qual (defScope st) s.heap.objs.size f cdv)) → R n hs pl ch ds d → SpanAt K C H (p :: os) p n hs pl ch → p ∉ os →
      (∀ a ∈ os, ∃ o, H a = some o ∧ NT o) → ∀ σ, SA K ⟨H, p :: os, [], .val (.ref p) :: (ds.map SD.dat ++ List.replicate (N.length - (ds.length + 1)) SD.any)⟩ σ H →
      RUN (cxOf CX0 P w K mg base N qual (defScope st) f cdv A outer s H E).nox (defBody st) (DR K H os d) σ H) :
    DX P w K mg base C m (k + 1) R := by
  have hl : ∀ vs H Q E, spX K C R vs H Q E → vs.length = ps.length := fun vs H Q E ⟨os, p, n, hs, pl, ch, vs', ds, d, e, _, _, _, h1, h2, _⟩ => by
    rw [e, List.length_cons, h1.len]
    exact hlen _ _ _ _ ds d h2
  refine ⟨⟨f, fd, ps, hm, hb, F.ok S hl fun cdv A outer s H vs Q E hr h => ?_⟩, nm⟩
  obtain ⟨os, p, n, hs, pl, ch, vs', ds, d, rfl, ho, hsp, hp, h1, h2, q⟩ := h
  have sa : SA K ⟨H, p :: os, [], .val (.ref p) :: (ds.map SD.dat ++ List.replicate (N.length - (ds.length + 1)) SD.any)⟩ (L2.start N (.ref p :: vs')) H := by
    refine ⟨Stp.refl H, fun a ha => ?_, List.nodup_nil, fun _ m => absurd m (by simp), fun _ m => absurd m (by simp), ?_⟩
    · rcases List.mem_cons.mp ha with rfl | ha
      · exact hsp.at0
      · exact ho a ha
    · unfold L2.start
      rw [List.length_cons, h1.len, List.map_cons, List.cons_append]
      exact .cons rfl (env_start _ h1)
  have g := hbody cdv A outer s H E os p n hs pl ch ds d hr h2 hsp hp ho _ sa
  refine ⟨fun D σ H' => RUN (cxOf CX0 P w K mg base N qual (defScope st) f cdv A outer s H E).nox (defBody st) D σ H', pss_run, ?_⟩
  refine RUN.mono g (fun σ H' z => ?_) (fun v H' z => q v H' z.1 z.2) (fun _ _ z => z.elim) fun _ _ z => z.elim
  obtain ⟨rfl, z⟩ := z
  exact q _ H' z .non
/-- a state whose one owned thing p is forgotten -/
theorem SA.unown {K : PySem.W.Frag} {H0 H : Hp} {p : Addr} {os : List Addr} {rho : List SD} {σ : L2.St} (s : SA K ⟨H0, p :: os, [], rho⟩ σ H) : SA K ⟨H, os, [], rho⟩ σ H :=
  ⟨Stp.refl H, fun a ha => by
    obtain ⟨o, h1, h2⟩ := s.dom a (List.mem_cons_of_mem _ ha)
    exact ⟨o, s.stp.own a (List.mem_cons_of_mem _ ha) o h1, h2⟩, List.nodup_nil, fun _ m => absurd m (by simp), fun _ m => absurd m (by simp), s.env.mono (hid_sub fun a m => List.mem_cons_of_mem _ m)⟩
section
variable {X : Cx} {S : SS} {e a b c o : Expr} {d d1 d2 d3 : PyData} {pos : Pos} {D : Ends} {rest : List Stmt} {p C : Addr} {hs pl ch : PyData} {H0 : Hp} {os : List Addr} {rho : List SD}
/-- o.m(e, ..), m may change the count of o -/
theorem pe_methX {m : Str} {apos : Pos} {es : List Expr} {ds : List PyData} {k : Nat} {n : Int} {R : Int → PyData → PyData → PyData → List PyData → PyData → Prop} {pl' : Sem Bool} (F : DX X.prog X.w X.K X.mg X.base C m k R) (hr : Room k X.A) (ho : VV X ⟨H0, p :: os, [], rho⟩ o (.ref p)) (hI : SpanAt X.K C H0 (p :: os) p n hs pl ch) (hp : p ∉ os) (hc : Cls X.K C)
    (ha : VA X ⟨H0, p :: os, [], rho⟩ (e :: es) ds) (hR : R n hs pl ch ds d) (hst : starEach (e :: es) X.env = (false, eval e X.env) :: starEach es X.env := by rfl) (hpl : (backTo pos (starEach es X.env)).any (·.1) = false := by rfl)
    (ht : eval (.Call (.Attribute o m apos) (e :: es) [] pos) X.env = (do
      let ov ← eval o X.env
      standAt apos.atName
      let (f, first) ← holding [ov] (getMethod ov m pl')
      callWith pos f first (backTo pos (starEach (e :: es) X.env)) (backToKw pos (keywordEach [] X.env))) := by rfl) :
    PE X (.Call (.Attribute o m apos) (e :: es) [] pos) (fun σ H Q => SA X.K ⟨H0, p :: os, [], rho⟩ σ H ∧ ∀ v H3, Stp os H0 H3 → Is X.K (hid os H3) v d → (∃ n', SpanAt X.K C H3 os p n' hs pl ch) → SA X.K ⟨H3, os, [], rho⟩ σ H3 → Q v H3) := by
  obtain ⟨f, fd, ps, h1, h2, h3⟩ := F.ex
  refine PEimp (pe_meth (E := E0) (pl := pl') ho hc h1 h3 hr h2 .nil pass0 ha hst hpl ht) fun σ H Q ⟨s, q⟩ => ⟨s, fun H1 s1 => ?_⟩
  have exa : ∀ {Hx : Hp}, SA X.K ⟨H0, p :: os, [], rho⟩ σ Hx → SpanAt X.K C Hx (p :: os) p n hs pl ch := fun {Hx} sx => by
    obtain ⟨dx, vh, vp, vc, g1, i1, i2, i3⟩ := hI
    have e := sx.base
    exact ⟨dx, vh, vp, vc, sx.stp.own p List.mem_cons_self _ g1, i1.mono e, i2.mono e, i3.mono e⟩
  have sx1 := exa (s.step s1)
  obtain ⟨dx, vh, vp, vc, g1, _⟩ := sx1
  refine ⟨p, dx, _, rfl, g1, fs4_none F.nm, s.step s1, fun vs H2 s2 is => ?_⟩
  have s12 := (s.step s1).step s2
  have sx2 := exa s12
  show spX X.K C R (.ref p :: (vs ++ [])) H2 Q E0
  rw [List.append_nil]
  refine ⟨os, p, n, hs, pl, ch, vs, ds, d, rfl, fun a m => s12.nt a (List.mem_cons_of_mem _ m), sx2, hp, is, hR, fun v H3 s3 i => ?_⟩
  have st : Stp os H0 H3 := (s12.stp.sub fun a m => List.mem_cons_of_mem _ m).trans s3
  refine q v H3 st i (sx2.ext s3.ext ((hid_sub fun a m => List.mem_cons_of_mem _ m).trans s3.ext.hid)) ?_
  have su := s12.unown
  have sw := su.step (S := ⟨H2, os, [], rho⟩) s3
  exact ⟨Stp.refl H3, fun a m => sw.nt a m, List.nodup_nil, fun _ m => absurd m (by simp), fun _ m => absurd m (by simp), sw.env⟩
theorem gb_setX (i : Nat) {x m : Str} {pos' apos cp : Pos} {es : List Expr} {ds : List PyData} {k : Nat} {n : Int} {R : Int → PyData → PyData → PyData → List PyData → PyData → Prop} {pl' : Sem Bool} (F : DX X.prog X.w X.K X.mg X.base C m k R) (hr : Room k X.A) (ho : VV X ⟨H0, p :: os, [], rho⟩ o (.ref p)) (hI : SpanAt X.K C H0 (p :: os) p n hs pl ch) (hp : p ∉ os) (hc : Cls X.K C)
    (ha : VA X ⟨H0, p :: os, [], rho⟩ (e :: es) ds) (hR : R n hs pl ch ds d) (hc2 : ∀ Hb, Stp os H0 Hb → (∃ n', SpanAt X.K C Hb os p n' hs pl ch) → GB X ⟨Hb, os, [], rho.set i (.dat d)⟩ rest D) (hN : X.N.Nodup) (hi : X.N[i]? = some x := by rfl) (hx : Loc X.env.scope x := by first | exact Or.inl rfl | exact Or.inr rfl)
    (hs : swapsWith (.Call (.Attribute o m apos) (e :: es) [] cp) (some (.Name x pos')) pos.line X.env = pure false := by rfl) (hf : X.fn x = true ∨ X.env.scope.names.lookup x = some .local := by first | exact .inl rfl | exact .inr rfl | assumption)
    (hst : starEach (e :: es) X.env = (false, eval e X.env) :: starEach es X.env := by rfl) (hpl : (backTo cp (starEach es X.env)).any (·.1) = false := by rfl)
    (ht : eval (.Call (.Attribute o m apos) (e :: es) [] cp) X.env = (do
      let ov ← eval o X.env
      standAt apos.atName
      let (f, first) ← holding [ov] (getMethod ov m pl')
      callWith cp f first (backTo cp (starEach (e :: es) X.env)) (backToKw cp (keywordEach [] X.env))) := by rfl) :
    GB X ⟨H0, p :: os, [], rho⟩ (.Assign [.Name x pos'] (.Call (.Attribute o m apos) (e :: es) [] cp) pos :: rest) D := fun σ H s =>
  run_cons (ps_set hN hi hx (pe_methX F hr ho hI hp hc ha hR hst hpl ht) hs hf) ⟨s, fun v H3 s3 i3 sp s4 => hc2 H3 s3 sp _ H3 (s4.set (sd := .dat d) ⟨v, rfl, i3⟩)⟩
theorem gb_exprX {m : Str} {apos cp : Pos} {es : List Expr} {ds : List PyData} {k : Nat} {n : Int} {R : Int → PyData → PyData → PyData → List PyData → PyData → Prop} {pl' : Sem Bool} (F : DX X.prog X.w X.K X.mg X.base C m k R) (hr : Room k X.A) (ho : VV X ⟨H0, p :: os, [], rho⟩ o (.ref p)) (hI : SpanAt X.K C H0 (p :: os) p n hs pl ch) (hp : p ∉ os) (hc : Cls X.K C)
    (ha : VA X ⟨H0, p :: os, [], rho⟩ (e :: es) ds) (hR : R n hs pl ch ds d) (hc2 : ∀ Hb, Stp os H0 Hb → (∃ n', SpanAt X.K C Hb os p n' hs pl ch) → GB X ⟨Hb, os, [], rho⟩ rest D)
    (hs : swapsWith (.Call (.Attribute o m apos) (e :: es) [] cp) none pos.line X.env = pure false := by rfl)
    (hst : starEach (e :: es) X.env = (false, eval e X.env) :: starEach es X.env := by rfl) (hpl : (backTo cp (starEach es X.env)).any (·.1) = false := by rfl)
    (ht : eval (.Call (.Attribute o m apos) (e :: es) [] cp) X.env = (do
      let ov ← eval o X.env
      standAt apos.atName
      let (f, first) ← holding [ov] (getMethod ov m pl')
      callWith cp f first (backTo cp (starEach (e :: es) X.env)) (backToKw cp (keywordEach [] X.env))) := by rfl) :
    GB X ⟨H0, p :: os, [], rho⟩ (.Expr (.Call (.Attribute o m apos) (e :: es) [] cp) pos :: rest) D := fun σ H s =>
  run_cons (ps_expr (pe_methX F hr ho hI hp hc ha hR hst hpl ht) hs) ⟨s, fun v H3 s3 i3 sp s4 => hc2 H3 s3 sp _ H3 s4⟩
theorem gb_unown {sts : List Stmt} {n : Int} (hI : SpanAt X.K C H0 (p :: os) p n hs pl ch) (h : ∀ Hb, Stp os H0 Hb → (∃ n', SpanAt X.K C Hb os p n' hs pl ch) → GB X ⟨Hb, os, [], rho⟩ sts D) : GB X ⟨H0, p :: os, [], rho⟩ sts D := fun σ H s =>
  h H (s.stp.sub fun a m => List.mem_cons_of_mem _ m) (hI.ext s.stp.ext (s.base.trans (hid_sub fun a m => List.mem_cons_of_mem _ m))) σ H s.unown
/-! ### the count -/
theorem ve_count {n : Int} (ho : VV X S o (.ref p)) (hI : SpanAt X.K C S.H0 S.os0 p n hs pl ch) (hp : p ∈ S.os0) (hc : Cls X.K C) (hn : NoAttr X.K C "count") (hb : attributeBase o "count" X.env (eval o X.env) = eval o X.env := by rfl) : VE X S (.Attribute o "count" pos) (.int n) :=
  PEimp (pe_fld ho hb) fun σ H Q ⟨s, q⟩ => ⟨s, fun H1 s1 => by
    obtain ⟨dx, vh, vp, vc, h1, _⟩ := hI
    exact ⟨p, C, dx, _, _, rfl, (s.step s1).stp.own p hp _ h1, hc, hn, lk_count, q _ H1 s1 (.int _)⟩⟩
theorem put_count {vh vp vc : V} {n m : Int} : putF "count" (V.int m) (fs4 vh vp vc n) = fs4 vh vp vc m := by
  unfold fs4 putF
  rw [if_neg (by decide +kernel)]
  unfold putF
  rw [if_neg (by decide +kernel)]
  unfold putF
  rw [if_neg (by decide +kernel)]
  unfold putF
  rw [if_pos rfl]
theorem SA.count {K : PySem.W.Frag} {σ : L2.St} {H : Hp} (s : SA K S σ H) (hp : p ∈ S.os0) {n m : Int} (hI : SpanAt K C S.H0 S.os0 p n hs pl ch) :
    ∃ dx vh vp vc, H p = some (.ins C dx (fs4 vh vp vc n)) ∧ SpanAt K C (upd (S.now H) p (.ins C dx (fs4 vh vp vc m))) S.os0 p m hs pl ch ∧ Ext S.H0 (upd (S.now H) p (.ins C dx (fs4 vh vp vc m))) ∧ (∀ a ∈ S.os0, a ≠ p → ∀ o, S.H0 a = some o → upd (S.now H) p (.ins C dx (fs4 vh vp vc m)) a = some o) ∧
      SA K ⟨upd (S.now H) p (.ins C dx (fs4 vh vp vc m)), S.os0, S.mu, S.rho⟩ σ (upd H p (.ins C dx (fs4 vh vp vc m))) := by
  obtain ⟨dx, vh, vp, vc, h1, i1, i2, i3⟩ := hI
  have hH := s.stp.own p hp _ h1
  have pm : p ∉ S.mu.map (·.1) := fun z => by
    rw [s.new p z] at h1
    cases h1
  have sr := s.rebase
  have nowp : S.now H p = some (.ins C dx (fs4 vh vp vc n)) := by rw [show S.now H p = H p from hid_out pm]; exact hH
  have nowS := s.nowStp
  have E1 : Ext S.H0 (upd (S.now H) p (.ins C dx (fs4 vh vp vc m))) := fun a o ha => by
    by_cases z : a = p
    · subst z
      rw [h1] at ha
      cases ha
      exact ⟨_, upd_same, .inr (.inr ⟨C, dx, vh, vp, vc, n, m, rfl, rfl⟩)⟩
    · rw [upd_ne z]
      exact nowS.ext a o ha
  have hide : ∀ H' o', hid S.os0 (upd H' p o') = hid S.os0 H' := fun H' o' => hid_upd_in hp
  have hide2 : hid S.os (upd H p (.ins C dx (fs4 vh vp vc m))) = hid S.os H := hid_upd_in (List.mem_append_right _ hp)
  refine ⟨dx, vh, vp, vc, hH, ⟨dx, vh, vp, vc, upd_same, ?_, ?_, ?_⟩, E1, fun a ha z o h => ?_, ⟨⟨fun a o ha => ?_, fun a ha o h => ?_⟩, fun a ha => ?_, s.nd, fun a ha => ?_, fun q hq => ?_, ?_⟩⟩
  · rw [hide]; exact i1.mono nowS.ext.hid
  · rw [hide]; exact i2.mono nowS.ext.hid
  · rw [hide]; exact i3.mono nowS.ext.hid
  · rw [upd_ne z]; exact nowS.own a ha o h
  · by_cases z : a = p
    · subst z
      have ha' : upd (S.now H) a (.ins C dx (fs4 vh vp vc m)) a = some o := ha
      rw [upd_same] at ha'
      exact ⟨o, by rw [upd_same]; exact ha', .inl rfl⟩
    · have ha' : upd (S.now H) p (.ins C dx (fs4 vh vp vc m)) a = some o := ha
      rw [upd_ne z] at ha'
      exact ⟨o, by rw [upd_ne z]; exact (hid_some ha').2, .inl rfl⟩
  · by_cases z : a = p
    · subst z
      have h' : upd (S.now H) a (.ins C dx (fs4 vh vp vc m)) a = some o := h
      rw [upd_same] at h'
      rw [upd_same]; exact h'
    · have h' : upd (S.now H) p (.ins C dx (fs4 vh vp vc m)) a = some o := h
      rw [upd_ne z] at h'
      rw [upd_ne z]; exact (hid_some h').2
  · by_cases z : a = p
    · subst z
      exact ⟨_, upd_same, trivial⟩
    · obtain ⟨o, g1, g2⟩ := s.dom a ha
      exact ⟨o, by show upd _ _ _ a = _; rw [upd_ne z]; exact nowS.own a ha o g1, g2⟩
  · show upd _ _ _ a = none
    rw [upd_ne (show a ≠ p from fun z => pm (by rw [← z]; exact ha))]
    exact hid_in ha
  · show MIs K (hid S.os _) _ q.1 q.2
    rw [hide2]
    refine (s.mok q hq).keep (Ext.refl _) fun o ho => ?_
    rw [upd_ne (show q.1 ≠ p from fun z => pm (by rw [← z]; exact List.mem_map.mpr ⟨q, hq, rfl⟩))]
    exact ho
  · show EnvOk K (hid S.os _) σ S.rho
    rw [hide2]
    exact s.env
theorem gb_cnt {n k : Int} {ap : Pos} {mu : List (Addr × MO)} (ho : VV X ⟨H0, p :: os, mu, rho⟩ o (.ref p)) (hI : SpanAt X.K C H0 (p :: os) p n hs pl ch) (hp : p ∉ os) (hc : Cls X.K C) (hn : NoAttr X.K C "count") (he : VE X ⟨H0, p :: os, mu, rho⟩ e (.int k))
    (hr : ∀ Hb, Stp os H0 Hb → SpanAt X.K C Hb (p :: os) p (n + k) hs pl ch → GB X ⟨Hb, p :: os, mu, rho⟩ rest D) : GB X ⟨H0, p :: os, mu, rho⟩ (.AugAssign (.Attribute o "count" ap) .Add e pos :: rest) D := fun σ H s => by
  refine run_cons (ps_fldaug ho he in_add) ⟨s, fun H1 s1 => ?_⟩
  have s' := s.step s1
  obtain ⟨dx, vh, vp, vc, h1, _⟩ := id hI
  refine ⟨p, C, dx, _, _, rfl, s'.stp.own p List.mem_cons_self _ h1, hc, hn, lk_count, s', fun v H2 s2 i2 => ?_⟩
  rw [i_int i2]
  obtain ⟨dx', vh', vp', vc', g1, g2, g3, g4, g5⟩ := (s'.step s2).count (m := n + k) List.mem_cons_self hI
  refine ⟨n, k, rfl, rfl, dx', _, g1, by show 4 < 1000; decide, ?_⟩
  rw [put_count]
  exact hr _ ⟨g3, fun a ha o h => g4 a (List.mem_cons_of_mem _ ha) (fun z => hp (z ▸ ha)) o h⟩ g2 σ _ g5
/-! ### an item of an owned list -/
theorem ve_ixM (i j : Nat) {x : Str} {np : Pos} {q : Addr} {ds : List PyData} {n : Int} (hi : S.rho[i]? = some (.val (.ref q))) (hj : S.mu[j]? = some (q, .ml ds)) (hb : VE X S b (.int n)) (hd : atI ds n = some d) (hN : X.N[i]? = some x := by rfl)
    (hv : Vis X.env.scope x := by first | exact Or.inl rfl | exact Or.inr (Or.inl rfl) | exact Or.inr (Or.inr rfl)) (h1 : (x == ("__debug__" : Str)) = false := by decide) (h2 : (x == ("__classdict__" : Str)) = false := by decide) (hsl : PlainIx b := by exact fun _ _ => rfl) : VE X S (.Subscript (.Name x np) b pos) d :=
  PEimp (pe_ix ix_list (pv i hN hv h1 h2) hb hsl) fun σ H Q ⟨s, q⟩ => ⟨_, s.env.val hi, s, fun v2 H2 s2 i2 => by
    obtain ⟨xs, m1, m2⟩ := (s.step s2).mok _ (List.mem_of_getElem? hj)
    obtain ⟨v, h3, h4⟩ := atI_is m2 hd
    exact ⟨_, xs, n, v, rfl, i_int i2, SqL.of m1, h3, q _ H2 s2 h4⟩⟩
/-! ### a range loop whose base moves -/
theorem gb_rangeH {γ : Type} (n : Int) (i : Nat) (Iv : Nat → γ → Prop) (hf : γ → Hp) (mu : γ → List (Addr × MO)) (rho : γ → List SD) {x : Str} {tp : Pos} {p cp : Pos} {body : List Stmt} (hm : X.mg "range" = none) (hn : -(2 ^ 62) ≤ n ∧ n < 2 ^ 62) (ha : VE X S a (.int n))
    (ht : PG X (.Name x tp) ((Tg.nm i).g X.K)) (h0 : ∃ g, Iv 0 g ∧ hf g = S.H0 ∧ mu g = S.mu ∧ Weak S.rho (rho g))
    (hb : ∀ k g, k < n.toNat → Iv k g → GB X ⟨hf g, S.os0, mu g, (rho g).set i (.dat (.int (k : Nat)))⟩ body { D with nx := fun σ H => ∃ g, Iv (k + 1) g ∧ SA X.K ⟨hf g, S.os0, mu g, rho g⟩ σ H, ct := fun σ H => ∃ g, Iv (k + 1) g ∧ SA X.K ⟨hf g, S.os0, mu g, rho g⟩ σ H, bk := RUN X rest D })
    (hd : ∀ g, Iv n.toNat g → GB X ⟨hf g, S.os0, mu g, rho g⟩ rest D) (hc : X.calm = true) (hg : Gl X "range" := by rfl) (hst : starEach [a] X.env = [(false, eval a X.env)] := by rfl) (hp : PassesOwn (model X.prog X.w) X.A X.env X.xe := by exact PassesOwn.never)
    (hs : ∀ x, foldedSetIterable (.Call (.Name "range" p) [a] [] cp) X.env x = pure x := by intro _; rfl) :
    GB X S (.For (.Name x tp) (.Call (.Name "range" p) [a] [] cp) body [] pos :: rest) D := fun σ H s => by
  refine run_cons (ps_for hp hc (pi_range1 hg hm (va_cons ha va_nil hst) hst) ht pss_run hs) ⟨s, fun vs H1 s1 is => ?_⟩
  obtain ⟨v, rfl, iv⟩ := all1 is
  obtain ⟨g0, i0, f0, m0, w0⟩ := h0
  refine ⟨n, by rw [i_int iv], hn.1, hn.2, for_range (fun k σ' H' => ∃ g, Iv k g ∧ SA X.K ⟨hf g, S.os0, mu g, rho g⟩ σ' H') ⟨g0, i0, by rw [f0, m0]; exact (s.step s1).weak w0⟩ ?_ ?_⟩
  · rintro k σ' H' hk ⟨g, ig, sg⟩
    have q := hb k g hk ig
    rw [Int.zero_add]
    exact sg.tg (t := .nm i) (d := .int (k : Nat)) rfl (.int _) fun σ2 s2 => q σ2 H' s2
  · rintro σ' H' ⟨g, ig, sg⟩
    exact hd g ig σ' H' sg
end
end DL

namespace DL
open PySem PySem.Spec PyProof.Rows L2

/-! ### the one class is made -/
def spI (K : PySem.W.Frag) (C : Addr) (R : PyData → PyData → PyData → Prop) : Sp := fun vs H Q _ => ∃ (os : List Addr) (p dx : Addr) (v1 v2 : V) (hs pl ch : PyData), vs = [.ref p, v1, v2] ∧ (∀ a ∈ os, ∃ o, H a = some o ∧ NT o) ∧ p ∉ os ∧ H p = some (.ins C dx []) ∧
  Is K (hid (p :: os) H) v1 hs ∧ Is K (hid (p :: os) H) v2 pl ∧ R hs pl ch ∧ ∀ H', Stp os (hid [p] H) H' → SpanAt K C H' (p :: os) p 0 hs pl ch → Q .non H'
structure DI (P : Program) (w : World) (K : PySem.W.Frag) (mg : Str → Option Value) (base : Heap) (x : Str) (C : Addr) (k : Nat) (R : PyData → PyData → PyData → Prop) : Prop where
  ex : ∃ f fd ps, mg x = some (.ref C) ∧ L2.Mk K C f ∧ Binds K fd ps [] ∧ FnOk P w K mg base CX0 k f fd ps (spI K C R)
theorem DI.up {P : Program} {w : World} {K : PySem.W.Frag} {mg : Str → Option Value} {base : Heap} {x : Str} {C : Addr} {j k : Nat} {R : PyData → PyData → PyData → Prop} (h : DI P w K mg base x C j R) (l : j ≤ k) : DI P w K mg base x C k R := by
  obtain ⟨f, fd, ps, h1, h2, h3, h4⟩ := h.ex
  exact ⟨f, fd, ps, h1, h2, h3, h4.mono l⟩
theorem hid1_os {os : List Addr} {p : Addr} {H : Hp} : hid os (hid [p] H) = hid (p :: os) H := hid_hid
section
variable {X : Cx} {S : SS} {e a b c o : Expr} {d d1 d2 d3 : PyData} {pos : Pos} {D : Ends} {rest : List Stmt} {p C : Addr} {hs pl ch : PyData} {H0 : Hp} {os : List Addr} {rho : List SD}
/-- self.f = e within __init__ -/
theorem gb_fldI (j : Nat) {f : Str} {pos' : Pos} {dx : Addr} {gs : List (Str × V)} (ho : VV X S o (.ref p)) (hj : S.mu[j]? = some (p, .mI C dx gs)) (hc : Cls X.K C) (hn : NoAttr X.K C f) (hl : Nat.ble (gs.length + 1) 1000 = true) (he : VE X S e d)
    (hr : ∀ Hb v, Stp S.os0 S.H0 Hb → Is X.K (hid S.os0 Hb) v d → GB X ⟨Hb, S.os0, S.mu.set j (p, .mI C dx (putF f v gs)), S.rho⟩ rest D) (hs : swapsWith e (some (.Attribute o f pos')) pos.line X.env = pure false := by rfl) : GB X S (.Assign [.Attribute o f pos'] e pos :: rest) D := fun σ H s => by
  refine run_cons (ps_fld ho he hs) ⟨s, fun v H1 s1 i1 => ⟨s.step s1, fun H2 s2 => ?_⟩⟩
  have sn := (s.step s1).step s2
  have hp := sn.mok _ (List.mem_of_getElem? hj)
  have e1 : hid S.os0 (S.now H2) = hid S.os H2 := hid_hid
  refine ⟨p, C, dx, gs, rfl, hp, hc, hn, Nat.lt_of_succ_le (Nat.le_of_ble_eq_true hl), hr (S.now H2) v sn.nowStp (by rw [e1]; exact i1.mono s2.ext.hid) σ _ ?_⟩
  exact sn.rebase.mut (j := j) (m' := .mI C dx (putF f v gs)) hj upd_same
/-- Class(a, b) -/
theorem pe_span {x : Str} {pp : Pos} {k : Nat} {R : PyData → PyData → PyData → Prop} (F : DI X.prog X.w X.K X.mg X.base x C k R) (hr : Room (k + 1) X.A) (ha : VA X ⟨H0, os, [], rho⟩ [a, b] [hs, pl]) (hR : R hs pl ch) (hg : Gl X x := by rfl) (hdb : (x == ("__debug__" : Str)) = false := by decide)
    (he : starEach [a, b] X.env = (false, eval a X.env) :: starEach [b] X.env := by rfl) (hpl : (backTo pos (starEach [b] X.env)).any (·.1) = false := by rfl) :
    PE X (.Call (.Name x pp) [a, b] [] pos) (fun σ H Q => SA X.K ⟨H0, os, [], rho⟩ σ H ∧ ∀ p H3, Stp os H H3 → p ∉ os → SpanAt X.K C H3 (p :: os) p 0 hs pl ch → SA X.K ⟨H3, p :: os, [], rho⟩ σ H3 → Q (.ref p) H3) := by
  obtain ⟨f, fd, ps, h1, h2, h3, h4⟩ := F.ex
  refine PEimp (pe_make (E := E0) h2 h4 hr hg h1 h3 .nil pass0 ha hdb he hpl) fun σ H Q ⟨s, q⟩ => ⟨s, fun vs H1 s1 is x dx hx hd hne => ?_⟩
  obtain ⟨v1, v2, rfl, i1, i2⟩ := all2 is
  have sn := s.step s1
  have xo : x ∉ os := sn.fresh hx
  have dxo : dx ∉ os := sn.fresh hd
  have ext : Ext H1 (hid [x] (upd (upd H1 dx (.own x)) x (.ins C dx []))) := fun a o ha => by
    have n1 : a ≠ x := ne_of_none ha hx
    have n2 : a ≠ dx := ne_of_none ha hd
    exact ⟨o, by rw [hid_out (by simp [n1]), upd_ne n1, upd_ne n2]; exact ha, .inl rfl⟩
  have st : Stp os H1 (hid [x] (upd (upd H1 dx (.own x)) x (.ins C dx []))) := ⟨ext, fun a m o ha => by
    have n1 : a ≠ x := ne_of_none ha hx
    have n2 : a ≠ dx := ne_of_none ha hd
    rw [hid_out (by simp [n1]), upd_ne n1, upd_ne n2]
    exact ha⟩
  have ee : Ext (hid os H1) (hid (x :: os) (upd (upd H1 dx (.own x)) x (.ins C dx []))) := by
    rw [← hid1_os]
    exact ext.hid
  show spI X.K C R ([.ref x, v1, v2] ++ []) _ _ E0
  rw [List.append_nil]
  refine ⟨os, x, dx, v1, v2, hs, pl, ch, rfl, fun a m => ?_, xo, upd_same, i1.mono ee, i2.mono ee, hR, fun H3 s3 sp => ⟨rfl, ?_⟩⟩
  · obtain ⟨o, g1, g2⟩ := sn.nt a m
    have n1 : a ≠ x := ne_of_none g1 hx
    have n2 : a ≠ dx := ne_of_none g1 hd
    exact ⟨o, by rw [upd_ne n1, upd_ne n2]; exact g1, g2⟩
  · have st3 : Stp os H1 H3 := st.trans s3
    have e3 : Ext (hid os H1) (hid (x :: os) H3) := fun a o ha => by
      obtain ⟨m, g⟩ := hid_some ha
      have n1 : a ≠ x := ne_of_none g hx
      obtain ⟨u, g1, g2⟩ := st3.ext a o g
      exact ⟨u, by rw [hid_out (by simp [n1, m])]; exact g1, g2⟩
    refine q x H3 (s1.trans st3) xo sp ⟨Stp.refl H3, fun a m => ?_, List.nodup_nil, fun _ m => absurd m (by simp), fun _ m => absurd m (by simp), sn.env.mono e3⟩
    rcases List.mem_cons.mp m with rfl | m
    · exact sp.at0
    · obtain ⟨o, g1, g2⟩ := sn.nt a m
      exact ⟨o, st3.own a m o g1, g2⟩
theorem gb_span (i : Nat) {x y : Str} {pp pos' cp : Pos} {k : Nat} {R : PyData → PyData → PyData → Prop} (F : DI X.prog X.w X.K X.mg X.base x C k R) (hr : Room (k + 1) X.A) (ha : VA X ⟨H0, os, [], rho⟩ [a, b] [hs, pl]) (hR : R hs pl ch)
    (hc : ∀ Hb p, Stp os H0 Hb → p ∉ os → SpanAt X.K C Hb (p :: os) p 0 hs pl ch → GB X ⟨Hb, p :: os, [], rho.set i (.val (.ref p))⟩ rest D) (hN : X.N.Nodup) (hi : X.N[i]? = some y := by rfl) (hx : Loc X.env.scope y := by first | exact Or.inl rfl | exact Or.inr rfl)
    (hsw : swapsWith (.Call (.Name x pp) [a, b] [] cp) (some (.Name y pos')) pos.line X.env = pure false := by rfl) (hf : X.fn y = true ∨ X.env.scope.names.lookup y = some .local := by first | exact .inl rfl | exact .inr rfl | assumption) (hg : Gl X x := by rfl) (hdb : (x == ("__debug__" : Str)) = false := by decide)
    (he : starEach [a, b] X.env = (false, eval a X.env) :: starEach [b] X.env := by rfl) (hpl : (backTo cp (starEach [b] X.env)).any (·.1) = false := by rfl) :
    GB X ⟨H0, os, [], rho⟩ (.Assign [.Name y pos'] (.Call (.Name x pp) [a, b] [] cp) pos :: rest) D := fun σ H s =>
  run_cons (ps_set hN hi hx (pe_span F hr ha hR hg hdb he hpl) hsw hf) ⟨s, fun p H3 s3 hp sp s4 => hc H3 p (s.stp.trans s3) hp sp _ H3 (s4.set (sd := .val (.ref p)) rfl)⟩
/-- Class(a, b).m(e, ..) -/
theorem ve_spanCall {x m : Str} {pp cp apos : Pos} {k j : Nat} {es : List Expr} {ds : List PyData} {R : PyData → PyData → PyData → Prop} {R2 : Int → PyData → PyData → PyData → List PyData → PyData → Prop} {pl' : Sem Bool} (F : DI X.prog X.w X.K X.mg X.base x C k R) (hr : Room (k + 1) X.A) (ha : VA X ⟨H0, os, [], rho⟩ [a, b] [hs, pl]) (hR : R hs pl ch)
    (G : DX X.prog X.w X.K X.mg X.base C m j R2) (hr2 : Room j X.A) (hc : Cls X.K C) (ha2 : ∀ Hb p, VA X ⟨Hb, p :: os, [], rho⟩ (e :: es) ds) (hR2 : R2 0 hs pl ch ds d) (hg : Gl X x := by rfl) (hdb : (x == ("__debug__" : Str)) = false := by decide)
    (he : starEach [a, b] X.env = (false, eval a X.env) :: starEach [b] X.env := by rfl) (hpl : (backTo cp (starEach [b] X.env)).any (·.1) = false := by rfl) (hst : starEach (e :: es) X.env = (false, eval e X.env) :: starEach es X.env := by rfl) (hpl2 : (backTo pos (starEach es X.env)).any (·.1) = false := by rfl)
    (ht : eval (.Call (.Attribute (.Call (.Name x pp) [a, b] [] cp) m apos) (e :: es) [] pos) X.env = (do
      let ov ← eval (.Call (.Name x pp) [a, b] [] cp) X.env
      standAt apos.atName
      let (f, first) ← holding [ov] (getMethod ov m pl')
      callWith pos f first (backTo pos (starEach (e :: es) X.env)) (backToKw pos (keywordEach [] X.env))) := by rfl) :
    VE X ⟨H0, os, [], rho⟩ (.Call (.Attribute (.Call (.Name x pp) [a, b] [] cp) m apos) (e :: es) [] pos) d := by
  obtain ⟨f, fd, ps, h1, h2, h3⟩ := G.ex
  have args : PA X (e :: es) (fun σ H Q => ∃ Hb p, SA X.K ⟨Hb, p :: os, [], rho⟩ σ H ∧ ∀ vs H', Stp (p :: os) H H' → IsAll X.K (hid (p :: os) H') vs ds → Q vs H') := ⟨fun ps pins s σ H Q I ⟨Hb, p, q⟩ => (ha2 Hb p).run ps pins s σ H Q I q⟩
  refine PEimp (pe_meth (E := E0) (pl := pl') (pe_span F hr ha hR hg hdb he hpl) hc h1 h3 hr2 h2 .nil pass0 args hst hpl2 ht) fun σ H Q ⟨s, q⟩ => ⟨s, fun p H3 s3 hp sp s4 => ?_⟩
  obtain ⟨dx, vh, vp, vc, g1, _⟩ := id sp
  refine ⟨p, dx, _, rfl, g1, fs4_none G.nm, H3, p, s4, fun vs H4 s5 is => ?_⟩
  have s6 := s4.step s5
  have sp4 : SpanAt X.K C H4 (p :: os) p 0 hs pl ch := by
    obtain ⟨dx, vh, vp, vc, g1, i1, i2, i3⟩ := sp
    have e := s6.base
    exact ⟨dx, vh, vp, vc, s6.stp.own p List.mem_cons_self _ g1, i1.mono e, i2.mono e, i3.mono e⟩
  show spX X.K C R2 (.ref p :: (vs ++ [])) H4 Q E0
  rw [List.append_nil]
  refine ⟨os, p, 0, hs, pl, ch, vs, ds, d, rfl, fun a m => s6.nt a (List.mem_cons_of_mem _ m), sp4, hp, is, hR2, fun v H5 s7 i => q v H5 ?_ i⟩
  exact (s3.trans (s5.sub fun a m => List.mem_cons_of_mem _ m)).trans s7
end
end DL

namespace DL
open PySem PySem.Spec PyProof.Rows L2

/-! ### defs of which only some facts of the answer are told -/
def spG (K : PySem.W.Frag) (Pre : List PyData → Prop) (Post : List PyData → PyData → Prop) : Sp := fun vs H Q _ => ∃ (os : List Addr) (ds : List PyData), (∀ a ∈ os, ∃ o, H a = some o ∧ NT o) ∧ IsAll K (hid os H) vs ds ∧ Pre ds ∧
  ∀ d v H', Post ds d → Stp os H H' → Is K (hid os H') v d → Q v H'
structure DG (P : Program) (w : World) (K : PySem.W.Frag) (mg : Str → Option Value) (base : Heap) (x : Str) (k : Nat) (Pre : List PyData → Prop) (Post : List PyData → PyData → Prop) : Prop where
  ex : ∃ f fd ps, mg x = some (.ref f) ∧ PySem.W.keepIn K (.ref f) = true ∧ Binds K fd ps [] ∧ FnOk P w K mg base CX0 k f fd ps (spG K Pre Post)
theorem DG.up {P : Program} {w : World} {K : PySem.W.Frag} {mg : Str → Option Value} {base : Heap} {x : Str} {j k : Nat} {Pre : List PyData → Prop} {Post : List PyData → PyData → Prop} (h : DG P w K mg base x j Pre Post) (l : j ≤ k) : DG P w K mg base x k Pre Post := by
  obtain ⟨f, fd, ps, h1, h2, h3, h4⟩ := h.ex
  exact ⟨f, fd, ps, h1, h2, h3, h4.mono l⟩
abbrev DRg (K : PySem.W.Frag) (H0 : Hp) (os0 : List Addr) (Po : PyData → Prop) : Ends := { nx := fun _ H' => Po .none ∧ Stp os0 H0 H', rt := fun v H' => ∃ d, Po d ∧ Stp os0 H0 H' ∧ Is K (hid os0 H') v d }
theorem dg_mk {P : Program} {w : World} {K : PySem.W.Frag} {mg : Str → Option Value} {base : Heap} {x : Str} {st : Stmt} {f : Addr} {fd : FuncData} {N ps : List Str} {k : Nat} {Pre : List PyData → Prop} {Post : List PyData → PyData → Prop} (hm : mg x = some (.ref f)) (F : Fun K x x st f fd)
    (S : FnScope N ps (defScope st)) (hb : Binds K fd ps []) (hlen : ∀ ds, Pre ds → ds.length = ps.length)
    (hbody : ∀ (cdv : Value) (A : Around) (outer : List Env) (s : Shared) (H : Hp) (E : XK) (os : List Addr) (ds : List PyData), Room k (A.deeper (envOfC x (defScope st) s.heap.objs.size f cdv)) → Pre ds →
      GB (cxOf CX0 P w K mg base N x (defScope st) f cdv A outer s H E).nox ⟨H, os, [], ds.map SD.dat ++ List.replicate (N.length - ds.length) SD.any⟩ (defBody st) (DRg K H os (Post ds))) :
    DG P w K mg base x (k + 1) Pre Post := by
  have hl : ∀ vs H Q E, spG K Pre Post vs H Q E → vs.length = ps.length := fun vs H Q E ⟨os, ds, _, h1, h2, _⟩ => by rw [h1.len]; exact hlen ds h2
  refine ⟨f, fd, ps, hm, F.kp, hb, F.ok S hl fun cdv A outer s H vs Q E hr h => ?_⟩
  obtain ⟨os, ds, ho, h1, h2, q⟩ := h
  have g := hbody cdv A outer s H E os ds hr h2
  refine ⟨fun D σ H' => RUN (cxOf CX0 P w K mg base N x (defScope st) f cdv A outer s H E).nox (defBody st) D σ H', pss_run, ?_⟩
  have sa : SA K ⟨H, os, [], ds.map SD.dat ++ List.replicate (N.length - ds.length) SD.any⟩ (L2.start N vs) H := by
    refine ⟨Stp.refl H, ho, List.nodup_nil, fun _ m => absurd m (by simp), fun _ m => absurd m (by simp), ?_⟩
    unfold L2.start
    rw [h1.len]
    exact env_start _ h1
  refine RUN.mono (g _ _ sa) (fun σ H' z => q .none _ H' z.1 z.2 .non) (fun v H' z => ?_) (fun _ _ z => z.elim) fun _ _ z => z.elim
  obtain ⟨d, z1, z2, z3⟩ := z
  exact q d v H' z1 z2 z3
section
variable {X : Cx} {S : SS} {e a b c : Expr} {d d1 d2 d3 : PyData} {pos : Pos} {D : Ends} {rest : List Stmt}
theorem pe_callG {x : Str} {p : Pos} {es : List Expr} {ds : List PyData} {k : Nat} {Pre : List PyData → Prop} {Post : List PyData → PyData → Prop} (F : DG X.prog X.w X.K X.mg X.base x k Pre Post) (hr : Room k X.A) (ha : VA X S (e :: es) ds) (hR : Pre ds) (hg : Gl X x := by rfl)
    (hdb : (x == ("__debug__" : Str)) = false := by decide) (he : starEach (e :: es) X.env = (false, eval e X.env) :: starEach es X.env := by rfl) (hpl : (backTo pos (starEach es X.env)).any (·.1) = false := by rfl) :
    PE X (.Call (.Name x p) (e :: es) [] pos) (fun σ H Q => SA X.K S σ H ∧ ∀ d v H', Post ds d → Stp S.os H H' → Is X.K (hid S.os H') v d → Q v H') := by
  obtain ⟨f, fd, ps, h1, h2, h3, h4⟩ := F.ex
  refine PEimp (pe_call (E := E0) h4 hr hg h1 h2 h3 .nil pass0 ha hdb he hpl) fun σ H Q ⟨s, q⟩ => ⟨s, fun vs H1 s1 is => ?_⟩
  show spG X.K Pre Post (vs ++ []) H1 Q E0
  rw [List.append_nil]
  exact ⟨S.os, ds, (s.step s1).nt, is, hR, fun d v H' po s2 i => q d v H' po (s1.trans s2) i⟩
/-- x = f(e, ..): what follows is shown for every answer -/
theorem gb_setG (i : Nat) {x y : Str} {p pos' cp : Pos} {es : List Expr} {ds : List PyData} {k : Nat} {Pre : List PyData → Prop} {Post : List PyData → PyData → Prop} (F : DG X.prog X.w X.K X.mg X.base x k Pre Post) (hr : Room k X.A) (ha : VA X S (e :: es) ds) (hR : Pre ds) (hc : ∀ d, Post ds d → GB X (S.set i (.dat d)) rest D) (hN : X.N.Nodup)
    (hi : X.N[i]? = some y := by rfl) (hx : Loc X.env.scope y := by first | exact Or.inl rfl | exact Or.inr rfl) (hs : swapsWith (.Call (.Name x p) (e :: es) [] cp) (some (.Name y pos')) pos.line X.env = pure false := by rfl)
    (hf : X.fn y = true ∨ X.env.scope.names.lookup y = some .local := by first | exact .inl rfl | exact .inr rfl | assumption) (hg : Gl X x := by rfl)
    (hdb : (x == ("__debug__" : Str)) = false := by decide) (he : starEach (e :: es) X.env = (false, eval e X.env) :: starEach es X.env := by rfl) (hpl : (backTo cp (starEach es X.env)).any (·.1) = false := by rfl) :
    GB X S (.Assign [.Name y pos'] (.Call (.Name x p) (e :: es) [] cp) pos :: rest) D := fun σ H s =>
  run_cons (ps_set hN hi hx (pe_callG F hr ha hR hg hdb he hpl) hs hf) ⟨s, fun d v H1 po s1 i1 => hc d po _ H1 ((s.step s1).set (sd := .dat d) ⟨v, rfl, i1⟩)⟩
theorem gb_retG {Po : PyData → Prop} (he : VE X S e d) (hp : Po d) (hD : ∀ v H', (∃ d, Po d ∧ Stp S.os0 S.H0 H' ∧ Is X.K (hid S.os0 H') v d) → D.rt v H' := by exact fun _ _ z => z) : GB X S (.Return (some e) pos :: rest) D :=
  gb_ret he fun v H' z y => hD v H' ⟨d, hp, z, y⟩
/-- a, b = x, y -/
theorem gb_par (i j : Nat) {x y : Str} {px py pt : Pos} {kt k2 : Nat} {pt2 : Pos} (ha : VA X S [a, b] [d1, d2]) (hr : GB X ⟨S.H0, S.os0, S.mu, (S.rho.set i (.dat d1)).set j (.dat d2)⟩ rest D) (hc : X.calm = true) (hN : X.N.Nodup) (hij : i ≠ j) (hi : X.N[i]? = some x := by rfl) (hj : X.N[j]? = some y := by rfl)
    (hx : X.env.scope.names.lookup x = some .local := by rfl) (hy : X.env.scope.names.lookup y = some .local := by rfl) (hw : swappedStores [.Tuple [.Name x px, .Name y py] kt pt] (.Tuple [a, b] k2 pt2) X.env = pure (some [x, y]) := by rfl)
    (hs : swapsWithSole [.Tuple [.Name x px, .Name y py] kt pt] (.Tuple [a, b] k2 pt2) pos.line X.env = pure false := by rfl) : GB X S (.Assign [.Tuple [.Name x px, .Name y py] kt pt] (.Tuple [a, b] k2 pt2) pos :: rest) D := fun σ H s =>
  run_cons (ps_par hc hN hi hj hij hx hy ha hw hs) ⟨s, fun vs H1 s1 is => by
    obtain ⟨v, w, rfl, h1, h2⟩ := all2 is
    exact ⟨v, w, rfl, hr _ H1 (((s.step s1).set (sd := .dat d1) (v := v) ⟨v, rfl, h1⟩).set (sd := .dat d2) (v := w) ⟨w, rfl, h2⟩)⟩⟩
end
end DL

namespace DL
open PySem PySem.Spec PyProof.Rows L2

/-! ### sorted of a list of triples that stands sorted: two ints ahead, no two alike -/
def Tri (h : Heap) (v : Value) (x y : Int) (c : Value) : Prop := ∃ (a : Addr) (ob : Obj) (t1 t2 : Tok) (m : Nat), v = .ref a ∧ h.get? a = some ob ∧ ob.cls = .type "tuple" ∧ ob.data = .seq #[.int x t1, .int y t2, c] m
theorem Tri.kept {h h' : Heap} {v : Value} {x y : Int} {c : Value} (T : Tri h v x y c) (k : ∀ b o, h.get? b = some o → o.cls = .type "tuple" → h'.get? b = some o) : Tri h' v x y c := by
  obtain ⟨a, ob, t1, t2, m, e1, e2, e3, e4⟩ := T
  exact ⟨a, ob, t1, t2, m, e1, k a ob e2 e3, e3, e4⟩
def triK (h : Heap) : Value → Int × Int
  | .ref a => match (h.get? a).map Obj.data with
    | some (Data.seq its _) => match its.toList with
      | .int x _ :: .int y _ :: _ => (x, y)
      | _ => (0, 0)
    | _ => (0, 0)
  | _ => (0, 0)
theorem Tri.key {h : Heap} {v : Value} {x y : Int} {c : Value} (T : Tri h v x y c) : triK h v = (x, y) := by
  obtain ⟨a, ob, t1, t2, m, rfl, e2, e3, e4⟩ := T
  unfold triK
  dsimp only
  rw [e2, Option.map_some, e4]
theorem tri_cmp {prog : Program} {w : World} {A : Around} {s : Shared} {vs : List Value} {k : Value → Int × Int} (T : ∀ v ∈ vs, ∃ c, Tri s.heap v (k v).1 (k v).2 c) (inj : ∀ v ∈ vs, ∀ u ∈ vs, k v = k u → v = u) :
    SrtO.Cmp prog w A s (tuples' true) (fun p => p.1 ∈ vs) (SrtO.lt2 fun v u => SrtO.lexB (k v) (k u)) := by
  intro p q mp mq
  obtain ⟨c, h1⟩ := T _ mp
  obtain ⟨c', h2⟩ := T _ mq
  have same := inj _ mp _ mq
  show wpAny (model prog w) A (keyLt' (tuples' true) p.1 q.1) (fun r s' => s' = s ∧ r = SrtO.lexB (k p.1) (k q.1)) (fun _ _ => False) s
  obtain ⟨a, ob, t1, t2, m, ea, ga, ca, da⟩ := h1
  obtain ⟨b, oc, u1, u2, n, eb, gb, cb, db⟩ := h2
  have cc : k p.1 = k q.1 → c = c' := fun e => by
    have e := same e
    rw [ea, eb] at e
    cases e
    rw [ga] at gb
    cases gb
    rw [da] at db
    injection db with d1 _
    have d2 := congrArg Array.toList d1
    injection d2 with _ d2
    injection d2 with _ d2
    injection d2
  rw [ea, eb]
  refine PySem.W.kat_lt ga da gb db ?_
  rw [← ea, ← eb]
  show PySem.W.KatLex prog w A true (decide (3 < 3)) _ [(.int (k p.1).1 t1, .int (k q.1).1 u1), (.int (k p.1).2 t2, .int (k q.1).2 u2), (c, c')] 0 s
  have fin : ∀ r, SrtO.lexB (k p.1) (k q.1) = r → (s = s ∧ r = SrtO.lexB (k p.1) (k q.1)) := fun r e => ⟨rfl, e.symm⟩
  refine PySem.W.kat_cons (SeqAt.EqAt.int_int _ t1 _ u1 prog w _ _ ?_)
  refine PySem.W.kat_go (fun z1 => ?_) fun z1 => ?_
  · have z1 : (k p.1).1 = (k q.1).1 := by simpa using z1
    refine PySem.W.kat_yes (PySem.W.kat_cons (SeqAt.EqAt.int_int _ t2 _ u2 prog w _ _ ?_))
    refine PySem.W.kat_go (fun z2 => ?_) fun z2 => ?_
    · have z2 : (k p.1).2 = (k q.1).2 := by simpa using z2
      have ek : k p.1 = k q.1 := Prod.ext z1 z2
      rw [cc ek]
      refine PySem.W.kat_yes (PySem.W.kat_cons (SeqAt.EqAt.same c' prog w _ _ ?_))
      refine PySem.W.kat_yes (PySem.W.kat_nil (fin false ?_))
      rw [ek]
      exact SrtO.lexB_no.mpr (by omega)
    · have z2 : ¬ (k p.1).2 = (k q.1).2 := by simpa using z2
      refine PySem.W.kat_no (PySem.W.kat_one _ _ (PyProof.Rows.lt_int ?_))
      refine fin _ ?_
      unfold SrtO.lexB
      rw [if_pos z1]
  · have z1 : ¬ (k p.1).1 = (k q.1).1 := by simpa using z1
    refine PySem.W.kat_no (PyProof.Rows.oneLt_int (fin _ ?_))
    unfold SrtO.lexB
    rw [if_neg z1]
theorem tri_firsts {h : Heap} : ∀ {vs : List Value} {k : Value → Int × Int}, (∀ v ∈ vs, ∃ c, Tri h v (k v).1 (k v).2 c) → ∃ fs : List Value, PySem.W.KatTups h vs fs ∧ fs.length = vs.length ∧ ∀ f ∈ fs, ∃ x t, f = Value.int x t
  | [], _, _ => ⟨[], PySem.W.KatTups.nil, rfl, fun _ hm => nomatch hm⟩
  | v :: vs, k, T => by
    obtain ⟨fs, h1, h2, h3⟩ := tri_firsts (vs := vs) (k := k) fun u hu => T u (List.mem_cons_of_mem _ hu)
    obtain ⟨c, a, ob, t1, t2, m, ea, ga, ca, da⟩ := T v List.mem_cons_self
    have G : PySem.W.KatTups h (.ref a :: vs) (.int (k v).1 t1 :: fs) := PySem.W.KatTups.cons ga ca da rfl h1
    rw [← ea] at G
    refine ⟨_, G, by simp [h2], fun f hf => ?_⟩
    rcases List.mem_cons.mp hf with e | hf
    · exact ⟨_, _, e⟩
    · exact h3 f hf
theorem tri_sortable {prog : Program} {w : World} {A : Around} {s : Shared} {a : Addr} {vs : List Value} {k : Value → Int × Int} (h0 : 0 < vs.length) (T : ∀ v ∈ vs, ∃ c, Tri s.heap v (k v).1 (k v).2 c) (inj : ∀ v ∈ vs, ∀ u ∈ vs, k v = k u → v = u)
    (ha : ∀ o, s.heap.get? a = some o → o.cls ≠ .type "tuple") : SrtO.SortableO prog w A s a vs fun v u => SrtO.lexB (k v) (k u) := by
  intro h' kp
  have T' : ∀ v ∈ vs, ∃ c, Tri h' v (k v).1 (k v).2 c := fun v hv => by
    obtain ⟨c, t⟩ := T v hv
    exact ⟨c, t.kept fun b o e cl => kp b o (fun z => ha o (by rw [← z]; exact e) cl) e⟩
  obtain ⟨fs, h1, h2, h3⟩ := tri_firsts T'
  refine ⟨tuples' true, fun Q E hq => ?_, tri_cmp T' inj⟩
  refine PySem.W.kat_kind (T := .type "int") h1 (by omega) (fun f hf => ?_) (by rfl) ?_
  · obtain ⟨x, t, rfl⟩ := h3 f hf
    exact PySem.W.Looks.now
  · have e : (Value.type "int" != Value.type "tuple") = true := by first | rfl | decide
    rw [e]
    exact hq
theorem same_lists {α β : Type} {k : α → β} : ∀ {l m : List α}, l.map k = m.map k → (∀ x ∈ l, ∀ y ∈ m, k x = k y → x = y) → l = m
  | [], [], _, _ => rfl
  | [], _ :: _, e, _ => by simp at e
  | _ :: _, [], e, _ => by simp at e
  | x :: l, y :: m, e, h => by
    rw [List.map_cons, List.map_cons] at e
    injection e with e1 e2
    rw [h x List.mem_cons_self y List.mem_cons_self e1, same_lists e2 fun a ha b hb => h a (List.mem_cons_of_mem _ ha) b (List.mem_cons_of_mem _ hb)]
/-- the datum of a triple -/
abbrev triD (e : (Int × Int) × PyData) : PyData := .tuple [.int e.1.1, .int e.1.2, e.2]
theorem tri_of {X : Cx} {pins : List (Addr × Obj)} {σ : L2.St} {H Hh : Hp} {s : Shared} (I : Inv X pins σ H s) (ex : Ext Hh H) {v : V} {u : Value} {e : (Int × Int) × PyData} (i : Is X.K Hh v (triD e)) (r : RelV v u) : ∃ c, Tri s.heap u e.1.1 e.1.2 c := by
  obtain ⟨a, xs, rfl, h1, h2⟩ := i_tup i
  obtain ⟨v1, v2, v3, rfl, j1, j2, j3⟩ := all3 h2
  rw [i_int j1, i_int j2] at h1
  obtain ⟨its, rv, ⟨ob, g1, g2, n, g3⟩, _⟩ := I.tuple (ex.t h1)
  obtain rfl : u = Value.ref a := r
  cases rv with
  | cons r1 rv =>
    cases rv with
    | cons r2 rv =>
      cases rv with
      | cons r3 rv =>
        cases rv
        obtain ⟨t1, rfl⟩ := r1
        obtain ⟨t2, rfl⟩ := r2
        exact ⟨_, a, ob, t1, t2, n, rfl, g1, g2, g3⟩
theorem cr_sortedTri {X : Cx} {Hh : Hp → Hp} (hx : ∀ H, Ext (Hh H) H) {es : List ((Int × Int) × PyData)} (asc : (es.map (·.1)).Pairwise fun x y => leP x y = true) (nd : (es.map (·.1)).Nodup) :
    CallR X (.builtin "sorted") (fun vs H Q => ∃ (a : Addr) (xs : List V), vs = [V.ref a] ∧ SqL X.K H a xs ∧ IsAll X.K (Hh H) xs (es.map triD) ∧ ∀ p, H p = none → Q (.ref p) (upd H p (.lst xs))) := by
  intro pins s σ H vs us Q I r h
  obtain ⟨a, xs, rfl, hs, hi, q⟩ := h
  obtain ⟨its, rv, hl, hz⟩ := I.list hs
  obtain ⟨u, rfl, ru⟩ := vals1 r
  obtain rfl : u = Value.ref a := ru
  have hz' : its.length ≤ sizeLine := by rw [← rv.length]; exact hz
  have key : ∀ {xs : List V} {its : List Value} {es : List ((Int × Int) × PyData)}, IsAll X.K (Hh H) xs (es.map triD) → Vals xs its → its.map (triK s.heap) = es.map (·.1) ∧ ∀ v ∈ its, ∃ c, Tri s.heap v (triK s.heap v).1 (triK s.heap v).2 c := by
    intro xs its es hi rv
    induction rv generalizing es with
    | nil =>
      cases es with
      | nil => exact ⟨rfl, fun v hv => nomatch hv⟩
      | cons e es => cases hi
    | cons r1 rv ih =>
      cases es with
      | nil => cases hi
      | cons e es =>
        rw [List.map_cons] at hi
        cases hi with
        | cons i1 hi =>
          obtain ⟨c, t⟩ := tri_of I (hx H) i1 r1
          obtain ⟨h1, h2⟩ := ih hi
          have tk := t.key
          refine ⟨by rw [List.map_cons, List.map_cons, tk, h1], fun v hv => ?_⟩
          rcases List.mem_cons.mp hv with rfl | hv
          · exact ⟨c, by rw [tk]; exact t⟩
          · exact h2 v hv
  obtain ⟨k1, k2⟩ := key hi rv
  have inj : ∀ v ∈ its, ∀ u ∈ its, triK s.heap v = triK s.heap u → v = u := by
    rw [← k1] at nd
    have := List.pairwise_map.mp nd
    intro v hv u hu e
    obtain ⟨i, hi⟩ := List.getElem?_of_mem hv
    obtain ⟨j, hj⟩ := List.getElem?_of_mem hu
    have a1 : (its.map (triK s.heap))[i]? = some (triK s.heap v) := by rw [List.getElem?_map, hi]; rfl
    have a2 : (its.map (triK s.heap))[j]? = some (triK s.heap v) := by rw [List.getElem?_map, hj, e]; rfl
    have := nd_ix nd a1 a2
    subst this
    rw [hi] at hj
    exact Option.some.inj hj
  refine SrtO.sorted_ord (SrtO.swo_lex (triK s.heap)) hl.isList hz' (fun h2 h₁ b hb kk => ?_) fun out hso hst => ?_
  · refine tri_sortable (s := { s with heap := h₁ }) (by omega) (fun v hv => ?_) inj fun o e => ?_
    · obtain ⟨c, t⟩ := k2 v hv
      exact ⟨c, t.kept fun b' o e _ => (kk b' o e).2⟩
    · have e' : some o = some (seqObj "list" its.toArray 0) := e.symm.trans hb
      cases e'
      intro c
      exact absurd (Value.type.inj c) (by decide)
  · have eo : out = its := by
      have p1 : (out.map (triK s.heap)).Perm (its.map (triK s.heap)) := hst.perm.map _
      have s1 : (out.map (triK s.heap)).Pairwise fun x y => leP x y = true := List.pairwise_map.mpr (hso.imp fun {x y} h => leP_no h)
      have s2 : (its.map (triK s.heap)).Pairwise fun x y => leP x y = true := by rw [k1]; exact asc
      exact same_lists (srt_uniq p1 s1 s2) fun x hx y hy => inj x (hst.perm.mem_iff.mp hx) y hy
    subst eo
    obtain ⟨n, hn⟩ := PyProof.Rows.sortedAll_at s.heap out out.toArray
    refine ⟨.ref (s.heap.objs.size + 1), upd H (s.heap.objs.size + 1) (.lst xs), I.laid (t' := s.toks) (fun b o e => PyProof.Rows.sortedAll_old e) (Nat.le_succ _) ⟨hz, out, n, rv, hn⟩, rfl, q _ (I.hok.fresh (Nat.le_succ _))⟩
section
variable {X : Cx} {S : SS} {e a b c o : Expr} {d d1 d2 d3 : PyData} {pos : Pos} {D : Ends} {rest : List Stmt}
/-- sorted(a list of triples that stands sorted) -/
theorem ve_sortedTri {es : List ((Int × Int) × PyData)} {p : Pos} (hm : X.mg "sorted" = none) (asc : (es.map (·.1)).Pairwise fun x y => leP x y = true) (nd : (es.map (·.1)).Nodup) (ha : VE X S e (.list (es.map triD))) (hg : Gl X "sorted" := by rfl) (he : starEach [e] X.env = [(false, eval e X.env)] := by rfl) :
    VE X S (.Call (.Name "sorted" p) [e] [] pos) (.list (es.map triD)) :=
  ve_callB (cr_sortedTri (Hh := hid S.os) (fun H => hid_ext) asc nd) hm (by decide +kernel) (va_cons ha va_nil he) (fun vs σ H Q s is q => by
    obtain ⟨v, rfl, h⟩ := all1 is
    obtain ⟨t, xs, rfl, h1, h2⟩ := i_lst h
    refine ⟨t, xs, rfl, hid_ext.l h1, h2, fun p hp => Want.newL (S := S) q s (Stp.refl H) hp h2⟩) hg (by decide) (by decide) he rfl
/-! ### repr -/
theorem cr_repr {d : PyData} (hg : X.A.guards = some []) (hu : X.A.units + (d.depth + 1) < cLine) (hs : d.showable = true) (hn : d.hasDict = false) (hz : d.shown.length ≤ sizeLine) :
    CallR X (.builtin "repr") (fun vs H Q => ∃ a, vs = [V.ref a] ∧ Dp X.K H (.ref a) d ∧ Q (.str d.shown) H) := by
  intro pins s σ H vs us Q I r h
  obtain ⟨a, rfl, hd, q⟩ := h
  obtain ⟨u, rfl, ru⟩ := vals1 r
  obtain rfl : u = Value.ref a := ru
  obtain ⟨as, R⟩ := Dp.reads I d (.ref a) (.ref a) hd rfl
  exact repr_of_reads' R hs (fun z => by rw [hn] at z; cases z) hg hu (fun b o e => e) (fun h' u tk kp => ⟨.str d.shown, H, I.kept kp, ⟨u, rfl⟩, q⟩) hz
theorem ve_repr {p : Pos} {ds : List PyData} (hg : X.A.guards = some []) (hm : X.mg "repr" = none) (hd : d = .list ds ∨ d = .tuple ds) (hu : X.A.units + (d.depth + 1) < cLine) (hs : d.showable = true) (hn : d.hasDict = false) (hz : d.shown.length ≤ sizeLine) (ha : VE X S e d) (hgl : Gl X "repr" := by rfl)
    (he : starEach [e] X.env = [(false, eval e X.env)] := by rfl) : VE X S (.Call (.Name "repr" p) [e] [] pos) (.str d.shown) :=
  ve_callB (cr_repr hg hu hs hn hz) hm PyProof.Rows.boot_repr (va_cons ha va_nil he) (fun vs σ H Q s is q => by
    obtain ⟨v, rfl, h⟩ := all1 is
    have hr : ∃ a, v = .ref a := by
      rcases hd with rfl | rfl
      · obtain ⟨a, xs, rfl, _⟩ := i_lst h
        exact ⟨a, rfl⟩
      · obtain ⟨a, xs, rfl, _⟩ := i_tup h
        exact ⟨a, rfl⟩
    obtain ⟨a, rfl⟩ := hr
    exact ⟨a, rfl, h.up.dp hn, Want.here q (.str _)⟩) hgl (by decide) (by decide) he rfl
end
end DL

namespace DL
open PySem PySem.Spec PyProof.Rows L2

/-! ### the law's own call, where no guard stands (turned from the worked rows for any surroundings) -/
theorem fnA_of {CX : CXT} {P : Program} {w : World} {K : PySem.W.Frag} {mg : Str → Option Value} {base : Heap} {lv : Nat} {fn : Addr} {name qual : Str} {params : Arguments} {body : List Stmt} {scope : Scope} {dV kV doc pm cdv ct oc : Value} {an od : Option Addr}
    {osl : Array (Option Value)} {N ps : List Str} {sp : Sp} (lkf : K.lookup fn = some ⟨oc, od, .func (PySem.W.fnOf name qual params body scope dV kV doc pm an cdv ct), osl⟩) (hCd : PySem.W.codeIn K cdv qual = true) (Sc : FnScope N ps scope)
    (lnh : ∀ vvs G Q E, sp vvs G Q E → vvs.length = ps.length)
    (hRm : Room (lv + 1) callerA) (hBody : ∀ (sh : Shared) (G : Hp) (vvs : List V) (Q : VK) (E : XK), sp vvs G Q E →
      ∃ tt, PSs (cxOf CX P w K mg base N qual scope fn cdv callerA [] sh G E) body tt ∧ tt { nx := fun _ G' => Q .non G', rt := Q } (L2.start N vvs) G) :
    ∀ (sh : Shared) (G : Hp) (args : Args) (uvs : List Value) (vvs : List V) (Q : VK) (E : XK), Env0 P w K mg base callerA [] sh G → BindsTo sh (PySem.W.fnOf name qual params body scope dV kV doc pm an cdv ct) args (ps.zip uvs) → Vals vvs uvs → sp vvs G Q E →
      codeAny (model P w) callerA (.call (.ref fn) args) (CR CX [] P w G sh Q E) sh := by
  intro sh G args uvs vvs Q E env0 hB rr hSp
  have hLen := lnh _ _ _ _ hSp
  have kin : K.In sh.heap := env0.mod.kin.keeps fun bb ob qe => (env0.bs bb ob qe).1
  have lmt : sh.heap.NoLimit := env0.mod.nolimit.keeps fun bb ob qe => (env0.bs bb ob qe).1
  have hKd : ∀ yv ∈ ps.zip uvs, scope.names.lookup yv.1 = some .local ∨ (scope.names.lookup yv.1 = some .cell ∧ ((cellsFrom (sh.heap.objs.size + 1) scope.names []).lookup yv.1).isSome = true) := fun ⟨nn, vv⟩ hy => by
    rcases Sc.par nn (List.of_mem_zip hy).1 with qq | qq
    · exact .inl qq
    · exact .inr ⟨qq, PySem.W.cellsFrom_some _ _ _ (.inl qq)⟩
  refine codeAny_call_function hRm.depth (kin _ _ lkf) rfl Sc.co Sc.gen rfl (PySem.W.codeRec_of kin hCd) (hB _ _ _ _ ?_)
  refine wpAny_newFunctionEnv_cells Sc.kind hKd fun env he sh1 xn => ?_
  subst he
  refine ⟨lmt.keeps xn.toInCall.keep, codeAny_func ?_⟩
  obtain ⟨tt, hT, hQ⟩ := hBody sh G vvs Q E hSp
  have Iv : Inv (cxOf CX P w K mg base N qual scope fn cdv callerA [] sh G E) [] (L2.start N vvs) G sh1 := inv_start Sc hRm.hd env0 hLen rr xn
  refine wpAny_mono (hT.run [] sh1 (L2.start N vvs) G _ Iv hQ) (fun flw sh' hSs => ?_) fun qe sh' hSs => hSs
  have fnl : ∀ {σ' : L2.St} {G' : Hp} {vv : V} {uv : Value}, Inv (cxOf CX P w K mg base N qual scope fn cdv callerA [] sh G E) [] σ' G' sh' → RelV vv uv → Q vv G' → CE [] P w G sh Q uv sh' :=
    fun {σ' G' vv uv} Jv rvs qq => ⟨vv, G', Jv.os, Jv.bare, Jv.base, Jv.hok, rvs, qq⟩
  cases flw with
  | ret uv =>
    obtain ⟨vv, σ', G', Jv, rvs, qq⟩ := hSs
    exact fnl Jv rvs qq
  | next =>
    obtain ⟨σ', G', Jv, qq⟩ := hSs
    exact fnl (vv := V.non) (uv := Value.none) Jv rfl qq
  | brk =>
    obtain ⟨_, _, _, qq⟩ := hSs
    exact False.elim qq
  | cont =>
    obtain ⟨_, _, _, qq⟩ := hSs
    exact False.elim qq

theorem lawA_call {P : Program} {w : World} {K : PySem.W.Frag} {mg mbn : Str → Option Value} {CX : CXT} {fad ad : Addr} {fdt : FuncData} {xn : Str} {sp : Sp} {sh₁ : Shared} {vvs : List Value} {nis : List Int}
    (kin : K.In sh₁.heap) (hNsp : sh₁.heap.Ns mainGlobals mg) (hB : sh₁.heap.Ns builtinsNs mbn) (hBlt : ∀ xn : Str, xn ≠ "__name__" → mbn xn = bootBuiltins xn) (hLim : sh₁.heap.NoLimit) (hGen : sh₁.gens = #[])
    (hAt : sh₁.heap.get? ad = some { cls := .type "list", data := .seq vvs.toArray }) (hInt : IntsAre vvs nis) (hLen : nis.length ≤ sizeLine) 
    (F : ∀ base : Heap, K.In base → base.Ns mainGlobals mg → ∀ (sh : Shared) (G : Hp) (args : Args) (uvs : List Value) (vvs : List V) (Q : VK) (E : XK), Env0 P w K mg base callerA [] sh G → BindsTo sh fdt args ([xn].zip uvs) → Vals vvs uvs → sp vvs G Q E → codeAny (model P w) callerA (.call (.ref fad) args) (CR CX [] P w G sh Q E) sh) (hBnd : ∀ (sh : Shared) (uv : Value), BindsTo sh fdt ⟨[uv], []⟩ [(xn, uv)])
    (hSp : ∀ G : Hp, Only G → SqL K G ad (nis.map V.int) → sp [.ref ad] G (fun vv _ => vv = .bl true) fun _ _ _ => False)
    (hCx : ∀ G qe sh', CX [] G sh₁ (fun _ _ _ => False) qe sh' → False) :
    codeAny (model P w) callerA (.call (.ref fad) ⟨[.ref ad], []⟩) (fun rr sh' => rr = .ok (.ret (.bool true)) ∧ OldK sh₁.heap sh'.heap ∧ sh'.os = sh₁.os ∧ AllBare sh'.gens) sh₁ := by
  have rvs := vals_ints hInt
  have lnv := hInt.length
  -- whichever heap tells the script
  have cor : ∀ G : Hp, Only G → SqL K G ad (nis.map V.int) → HOk P w G sh₁.heap → (∀ bb, G bb ≠ none → bb = ad) → (G ad ≠ none → K.lookup ad = none) →
      codeAny (model P w) callerA (.call (.ref fad) ⟨[.ref ad], []⟩) (fun rr sh' => rr = .ok (.ret (.bool true)) ∧ OldK sh₁.heap sh'.heap ∧ sh'.os = sh₁.os ∧ AllBare sh'.gens) sh₁ := by
    intro G onl sql hobs hAdr hKl
    have bof : ∀ {bb : Addr} {ob : Obj}, sh₁.heap.get? bb = some ob → G bb = none → (hidT sh₁.heap G).get? bb = some ob := fun qe nn => hidT_get qe nn
    have nodi : ∀ {bb : Addr} {ob : Obj} {ets : Array DictEntry} {eps : Nat}, sh₁.heap.get? bb = some ob → ob.data = .dict ets eps → G bb = none := fun {bb ob ets eps} qe dd => by
      cases qq : G bb with
      | none => rfl
      | some uv =>
        have q' : bb = ad := hAdr bb (by rw [qq]; simp)
        subst q'
        rw [hAt] at qe; cases qe
        have dd' : Data.seq vvs.toArray _ = Data.dict ets eps := dd
        cases dd'
    have nsk : ∀ {bb : Addr} {mp : Str → Option Value}, sh₁.heap.Ns bb mp → (hidT sh₁.heap G).Ns bb mp := fun {bb mp} ⟨ob, ets, eps, qe, dd, rr⟩ => ⟨ob, ets, eps, bof qe (nodi qe dd), dd, rr⟩
    have kbs : K.In (hidT sh₁.heap G) := fun bb ob qe => bof (kin bb ob qe) (by
      cases qq : G bb with
      | none => rfl
      | some uv =>
        have q' : bb = ad := hAdr bb (by rw [qq]; simp)
        subst q'
        rw [hKl (by rw [qq]; simp)] at qe; cases qe)
    have hMd : Mod K mg (hidT sh₁.heap G) := ⟨kbs, nsk hNsp, ⟨mbn, nsk hB, hBlt⟩, let ⟨mc, h1, h2⟩ := hLim; ⟨mc, nsk h1, h2⟩⟩
    have env0 : Env0 P w K mg (hidT sh₁.heap G) callerA [] sh₁ G := ⟨rfl, hMd, fun bb ob qe => of_hidT qe, Nat.le_of_eq (hidT_size _ _), trivial, fun bb hB => absurd (show bb ∈ ([] : List Addr) from hB) (by simp), hobs, .of_eq hGen⟩
    refine codeAny_mono (F _ kbs (nsk hNsp) sh₁ G ⟨[.ref ad], []⟩ [.ref ad] [.ref ad] _ _ env0 (hBnd sh₁ (.ref ad)) (.cons rfl .nil) (hSp G onl sql)) fun rr sh' hh => ?_
    cases rr with
    | error qe => exact (hCx G qe sh' hh).elim
    | ok flw =>
      cases flw with
      | next => exact False.elim hh
      | brk => exact False.elim hh
      | cont => exact False.elim hh
      | ret uv =>
        obtain ⟨vv, G', osq, bar, unt, hobs', rr', qq⟩ := hh
        have qq' : vv = .bl true := qq
        subst qq'
        obtain rfl : uv = Value.bool true := rr'
        refine ⟨rfl, OldK.of_keep fun bb ob qe => ?_, osq, bar⟩
        cases qq : G bb with
        | none => exact unt.keep bb ob qe qq (by intro zz; exact absurd (show bb ∈ ([] : List Addr) from zz) (by simp)) (by simp)
        | some uv =>
          rcases onl bb with zz | ⟨ob, xs, zz⟩
          · rw [qq] at zz; cases zz
          · have zz2 := unt.frzs bb ob _ zz
            obtain ⟨q1, _⟩ := hobs bb _ zz
            obtain ⟨q2, _⟩ := hobs' bb _ zz2
            rw [qe] at q1; cases q1
            exact q2
  cases hKk : K.lookup ad with
  | some ob =>
    -- the script stands in the written part
    have qe := kin ad ob hKk
    rw [hAt] at qe
    cases qe
    refine cor (fun _ => none) (fun _ => .inl rfl) (.inr ⟨_, vvs.toArray, _, hKk, rfl, rfl, rfl, by rw [List.size_toArray, lnv]; exact hLen, by simpa using rvs⟩) (fun bb uv zz => by have zz' : (none : Option HO) = some uv := zz; cases zz') (fun bb zz => absurd rfl zz) fun zz => absurd rfl zz
  | none =>
    refine cor (fun bb => if bb = ad then some (.frz { cls := .type "list", data := .seq vvs.toArray } (.lst (nis.map V.int))) else none) (fun bb => ?_) (.inl (.inr ⟨{ cls := .type "list", data := .seq vvs.toArray }, if_pos rfl⟩)) (fun bb uv zz => ?_) (fun bb zz => ?_) fun _ => hKk
    · by_cases hB : bb = ad
      · exact .inr ⟨_, _, if_pos hB⟩
      · exact .inl (if_neg hB)
    · by_cases hB : bb = ad
      · have zz' := (if_pos hB).symm.trans zz
        cases zz'
        subst hB
        exact ⟨hAt, by rw [List.length_map]; exact hLen, vvs, _, rvs, hAt⟩
      · have zz' := (if_neg hB).symm.trans zz
        cases zz'
    · by_cases hB : bb = ad
      · exact hB
      · exact absurd (if_neg hB) zz

/-- what the law's def is to keep: the script's ints, and True -/
def spLaw (K : PySem.W.Frag) : Sp := fun vs H Q _ => ∃ (a : Addr) (ns : List Int), vs = [.ref a] ∧ SqL K H a (ns.map V.int) ∧ ns.length ≤ 63 ∧ ∀ H', Q (.bl true) H'
theorem lawA_def {P : Program} {w : World} {K : PySem.W.Frag} {mg : Str → Option Value} {base : Heap} {x p0 : Str} {st : Stmt} {f : Addr} {fd : FuncData} {N : List Str} {k : Nat} (F : Fun K x x st f fd) (Sc : FnScope N [p0] (defScope st)) (hr : Room (k + 1) callerA)
    (hbody : ∀ (cdv : Value) (s : Shared) (H : Hp) (E : XK) (ns : List Int), Room k (callerA.deeper (envOfC x (defScope st) s.heap.objs.size f cdv)) → ns.length ≤ 63 →
      GB (cxOf CX0 P w K mg base N x (defScope st) f cdv callerA [] s H E).nox ⟨H, [], [], .dat (.list (ns.map PyData.int)) :: List.replicate (N.length - 1) SD.any⟩ (defBody st) { nx := fun _ _ => False, rt := fun v _ => v = .bl true }) :
    ∀ (s : Shared) (H : Hp) (args : Args) (us : List Value) (vs : List V) (Q : VK) (E : XK), Env0 P w K mg base callerA [] s H → BindsTo s fd args ([p0].zip us) → Vals vs us → spLaw K vs H Q E →
      codeAny (model P w) callerA (.call (.ref f) args) (CR CX0 [] P w H s Q E) s := by
  obtain ⟨oc, od, kV, doc, pm, an, cdv, ct, osl, rfl, lk, hcd⟩ := F.ex
  refine fnA_of lk hcd Sc (fun vs H Q E ⟨a, ns, e, _⟩ => by rw [e]; rfl) hr fun s H vs Q E hsp => ?_
  obtain ⟨a, ns, rfl, hq, hl, q⟩ := hsp
  refine ⟨fun D σ H' => RUN (cxOf CX0 P w K mg base N x (defScope st) f cdv callerA [] s H E).nox (defBody st) D σ H', pss_run.nox, ?_⟩
  have sa : SA K ⟨H, [], [], .dat (.list (ns.map PyData.int)) :: List.replicate (N.length - 1) SD.any⟩ (L2.start N [.ref a]) H := by
    refine ⟨Stp.refl H, fun _ m => absurd m (by simp), List.nodup_nil, fun _ m => absurd m (by simp), fun _ m => absurd m (by simp), ?_⟩
    have e : hid (SS.os ⟨H, [], [], .dat (.list (ns.map PyData.int)) :: List.replicate (N.length - 1) SD.any⟩) H = H := hid_nil H
    rw [e]
    exact env_start (vs := [.ref a]) (ds := [.list (ns.map PyData.int)]) _ (.cons (.lst hq IsAll.ints) .nil)
  exact RUN.mono (hbody cdv s H E ns (hr.deeper _) hl _ _ sa) (fun _ _ z => z.elim) (fun v H' z => by rw [z]; exact q H') (fun _ _ z => z.elim) fun _ _ z => z.elim
/-- the goal of the law's row, from its def's promise at the caller -/
theorem walkA {l : PySem.W.OpenLaw} {q : Program} {loose : List Str} {XP : (Str → Option Value) → Heap → Prop} {YP : World → Heap → Prop} {d : DefRec} {K : Params → PySem.W.Frag} {p0 : Str} (hn : l.most = some 63) (hdf : d.params.defaults = [])
    (hY : ∀ (w : World) (h : Heap), YP w h → (K w.params).In h)
    (F : ∀ (w : World) (mg : Str → Option Value) (fa : Addr) (h : Heap), (K w.params).In h → h.Ns mainGlobals mg → mg d.name = some (.ref fa) → ∃ fd : FuncData, (∀ (s : Shared) (u : Value), BindsTo s fd ⟨[u], []⟩ [(p0, u)]) ∧
      ∀ base : Heap, (K w.params).In base → base.Ns mainGlobals mg → ∀ (s : Shared) (H : Hp) (args : Args) (us : List Value) (vs : List V) (Q : VK) (E : XK), Env0 l.prog w (K w.params) mg base callerA [] s H → BindsTo s fd args ([p0].zip us) → Vals vs us → spLaw (K w.params) vs H Q E →
        codeAny (model l.prog w) callerA (.call (.ref fa) args) (CR CX0 [] l.prog w H s Q E) s) :
    PySem.W.WalkO q loose XP YP l.row.toRowW d [] (fun f vs => PySem.call f vs) := by
  refine Att.attach_call hn hdf fun w s0 s1 mg mb fa o pm cd doc a vs ns G Y ho hd hcd hmg hobj hints hlen hg => ?_
  obtain ⟨fd, hb, hF⟩ := F w mg fa _ (hY w _ Y) G.T.g hmg
  exact lawA_call (hY w _ Y) G.T.g G.T.b G.T.builtins G.T.nolimit hg hobj hints (Nat.le_trans hlen (by decide)) hF hb (fun H _ hS => ⟨a, ns, rfl, hS, hlen, fun _ => rfl⟩) fun _ _ _ z => z
end DL

namespace LC
open PySem PySem.Spec PyProof.Rows L2 DL
def topS (i : Nat) : Stmt := PySem.Challenge.pw_lastcoffer_k80_whole_no_way_does_better.main.body.getD i (.Pass ⟨0, 0, 0, 0⟩)
abbrev s_fraction : Stmt := topS 10
abbrev s_plus : Stmt := topS 11
abbrev s_times : Stmt := topS 12
abbrev s_is_less : Stmt := topS 13
abbrev s_is_fraction : Stmt := topS 14
abbrev s_sum_all : Stmt := topS 15
abbrev s_check_spread : Stmt := topS 16
abbrev s_gathered : Stmt := topS 17
abbrev s_sum_of : Stmt := topS 18
abbrev s_shifted : Stmt := topS 19
abbrev s_require : Stmt := topS 24
abbrev s_check_damage : Stmt := topS 25
abbrev s_is_amount : Stmt := topS 26
abbrev s_check_layer : Stmt := topS 27
abbrev s_check_treaty : Stmt := topS 28
abbrev s_remaining : Stmt := topS 29
abbrev s_after_treaty : Stmt := topS 30
abbrev s_check_valid : Stmt := topS 35
abbrev s_check_weather : Stmt := topS 36
abbrev s_check_house : Stmt := topS 37
abbrev s_weather_at : Stmt := topS 38
abbrev s_total_damage : Stmt := topS 39
abbrev s_change_of : Stmt := topS 40
abbrev s_all_changes : Stmt := topS 41
abbrev s_check_state : Stmt := topS 46
abbrev s_Span_init : Stmt := inClass (topS 47) 0
abbrev s_Span_treaties : Stmt := inClass (topS 47) 1
abbrev s_Span_following : Stmt := inClass (topS 47) 2
abbrev s_Span_layers : Stmt := inClass (topS 47) 3
abbrev s_Span_with_treaty : Stmt := inClass (topS 47) 4
abbrev s_Span_best : Stmt := inClass (topS 47) 5
abbrev s_Span_ruin : Stmt := inClass (topS 47) 6
abbrev s_least_ruin : Stmt := topS 48
abbrev s_best_treaty : Stmt := topS 49
abbrev s_chosen : Stmt := topS 50
abbrev s_plan_ruin : Stmt := topS 51
abbrev s_outlook : Stmt := topS 52
abbrev s_law_cell : Stmt := topS 54
abbrev s_law_digits : Stmt := topS 55
abbrev s_law_fraction : Stmt := topS 56
abbrev s_law_plus : Stmt := topS 57
abbrev s_law_times : Stmt := topS 58
abbrev s_law_less : Stmt := topS 59
abbrev s_law_spread : Stmt := topS 60
abbrev s_law_house : Stmt := topS 61
abbrev s_law_remaining : Stmt := topS 62
abbrev s_law_changes : Stmt := topS 63
abbrev s_law_year : Stmt := topS 64
abbrev s_law_way : Stmt := topS 65
abbrev s_law_reached : Stmt := topS 66
abbrev s_law_least : Stmt := topS 67
abbrev s_law_forward : Stmt := topS 68
abbrev s_law_best : Stmt := topS 69
abbrev s_law_planned : Stmt := topS 70
abbrev s_law : Stmt := topS 71
abbrev n_fraction : List Str := ["top", "low", "divisor"]
theorem sc_fraction : FnScope n_fraction ["top", "low"] (defScope s_fraction) := ⟨rfl, rfl, rfl, by decide +kernel, rfl, by decide +kernel, by decide +kernel⟩
abbrev n_plus : List Str := ["first", "second"]
theorem sc_plus : FnScope n_plus ["first", "second"] (defScope s_plus) := ⟨rfl, rfl, rfl, by decide +kernel, rfl, by decide +kernel, by decide +kernel⟩
abbrev n_times : List Str := ["first", "second"]
theorem sc_times : FnScope n_times ["first", "second"] (defScope s_times) := ⟨rfl, rfl, rfl, by decide +kernel, rfl, by decide +kernel, by decide +kernel⟩
abbrev n_is_less : List Str := ["first", "second"]
theorem sc_is_less : FnScope n_is_less ["first", "second"] (defScope s_is_less) := ⟨rfl, rfl, rfl, by decide +kernel, rfl, by decide +kernel, by decide +kernel⟩
abbrev n_is_fraction : List Str := ["item"]
theorem sc_is_fraction : FnScope n_is_fraction ["item"] (defScope s_is_fraction) := ⟨rfl, rfl, rfl, by decide +kernel, rfl, by decide +kernel, by decide +kernel⟩
abbrev n_sum_all : List Str := ["fractions", "total", "one"]
theorem sc_sum_all : FnScope n_sum_all ["fractions"] (defScope s_sum_all) := ⟨rfl, rfl, rfl, by decide +kernel, rfl, by decide +kernel, by decide +kernel⟩
abbrev n_check_spread : List Str := ["spread", "value", "chance", "at", "_"]
theorem sc_check_spread : FnScope n_check_spread ["spread"] (defScope s_check_spread) := ⟨rfl, rfl, rfl, by decide +kernel, rfl, by decide +kernel, by decide +kernel⟩
abbrev n_gathered : List Str := ["items", "chances", "value", "chance"]
theorem sc_gathered : FnScope n_gathered ["items"] (defScope s_gathered) := ⟨rfl, rfl, rfl, by decide +kernel, rfl, by decide +kernel, by decide +kernel⟩
abbrev n_sum_of : List Str := ["first", "second", "a", "p", "b", "q"]
theorem sc_sum_of : FnScope n_sum_of ["first", "second"] (defScope s_sum_of) := ⟨rfl, rfl, rfl, by decide +kernel, rfl, by decide +kernel, by decide +kernel⟩
abbrev n_shifted : List Str := ["spread", "places", "value", "chance"]
theorem sc_shifted : FnScope n_shifted ["spread", "places"] (defScope s_shifted) := ⟨rfl, rfl, rfl, by decide +kernel, rfl, by decide +kernel, by decide +kernel⟩
abbrev n_require : List Str := ["holds"]
theorem sc_require : FnScope n_require ["holds"] (defScope s_require) := ⟨rfl, rfl, rfl, by decide +kernel, rfl, by decide +kernel, by decide +kernel⟩
abbrev n_check_damage : List Str := ["spread", "value", "_"]
theorem sc_check_damage : FnScope n_check_damage ["spread"] (defScope s_check_damage) := ⟨rfl, rfl, rfl, by decide +kernel, rfl, by decide +kernel, by decide +kernel⟩
abbrev n_is_amount : List Str := ["item"]
theorem sc_is_amount : FnScope n_is_amount ["item"] (defScope s_is_amount) := ⟨rfl, rfl, rfl, by decide +kernel, rfl, by decide +kernel, by decide +kernel⟩
abbrev n_check_layer : List Str := ["layer", "word"]
theorem sc_check_layer : FnScope n_check_layer ["layer"] (defScope s_check_layer) := ⟨rfl, rfl, rfl, by decide +kernel, rfl, by decide +kernel, by decide +kernel⟩
abbrev n_check_treaty : List Str := ["treaty", "price", "layers", "layer"]
theorem sc_check_treaty : FnScope n_check_treaty ["treaty"] (defScope s_check_treaty) := ⟨rfl, rfl, rfl, by decide +kernel, rfl, by decide +kernel, by decide +kernel⟩
abbrev n_remaining : List Str := ["treaty", "amount", "layer", "top", "low"]
theorem sc_remaining : FnScope n_remaining ["treaty", "amount"] (defScope s_remaining) := ⟨rfl, rfl, rfl, by decide +kernel, rfl, by decide +kernel, by decide +kernel⟩
abbrev n_after_treaty : List Str := ["treaty", "spread", "amount", "chance"]
theorem sc_after_treaty : FnScope n_after_treaty ["treaty", "spread"] (defScope s_after_treaty) := ⟨rfl, rfl, rfl, by decide +kernel, rfl, by decide +kernel, by decide +kernel⟩
abbrev n_check_valid : List Str := ["spread"]
theorem sc_check_valid : FnScope n_check_valid ["spread"] (defScope s_check_valid) := ⟨rfl, rfl, rfl, by decide +kernel, rfl, by decide +kernel, by decide +kernel⟩
abbrev n_check_weather : List Str := ["weather", "count", "premium", "lines", "turns", "line", "value", "_"]
theorem sc_check_weather : FnScope n_check_weather ["weather", "count"] (defScope s_check_weather) := ⟨rfl, rfl, rfl, by decide +kernel, rfl, by decide +kernel, by decide +kernel⟩
abbrev n_check_house : List Str := ["house", "weathers", "treaties", "weather", "treaty"]
theorem sc_check_house : FnScope n_check_house ["house"] (defScope s_check_house) := ⟨rfl, rfl, rfl, by decide +kernel, rfl, by decide +kernel, by decide +kernel⟩
abbrev n_weather_at : List Str := ["house", "weather"]
theorem sc_weather_at : FnScope n_weather_at ["house", "weather"] (defScope s_weather_at) := ⟨rfl, rfl, rfl, by decide +kernel, rfl, by decide +kernel, by decide +kernel⟩
abbrev n_total_damage : List Str := ["house", "weather", "total", "line"]
theorem sc_total_damage : FnScope n_total_damage ["house", "weather"] (defScope s_total_damage) := ⟨rfl, rfl, rfl, by decide +kernel, rfl, by decide +kernel, by decide +kernel⟩
abbrev n_change_of : List Str := ["house", "weather", "treaty", "premium", "_", "price", "kept", "amount", "chance"]
theorem sc_change_of : FnScope n_change_of ["house", "weather", "treaty"] (defScope s_change_of) := ⟨rfl, rfl, rfl, by decide +kernel, rfl, by decide +kernel, by decide +kernel⟩
abbrev n_all_changes : List Str := ["house", "treaties", "weather", "treaty"]
theorem sc_all_changes : FnScope n_all_changes ["house"] (defScope s_all_changes) := ⟨rfl, rfl, rfl, by decide +kernel, rfl, by decide +kernel, by decide +kernel⟩
abbrev n_check_state : List Str := ["house", "state", "years", "least", "reserve", "weather"]
theorem sc_check_state : FnScope n_check_state ["house", "state", "years", "least"] (defScope s_check_state) := ⟨rfl, rfl, rfl, by decide +kernel, rfl, by decide +kernel, by decide +kernel⟩
abbrev n_Span_init : List Str := ["self", "house", "plan"]
theorem sc_Span_init : FnScope n_Span_init ["self", "house", "plan"] (defScope s_Span_init) := ⟨rfl, rfl, rfl, by decide +kernel, rfl, by decide +kernel, by decide +kernel⟩
abbrev n_Span_treaties : List Str := ["self", "state"]
theorem sc_Span_treaties : FnScope n_Span_treaties ["self", "state"] (defScope s_Span_treaties) := ⟨rfl, rfl, rfl, by decide +kernel, rfl, by decide +kernel, by decide +kernel⟩
abbrev n_Span_following : List Str := ["self", "state", "reserve", "weather", "found", "treaty", "change", "_", "turn"]
theorem sc_Span_following : FnScope n_Span_following ["self", "state"] (defScope s_Span_following) := ⟨rfl, rfl, rfl, by decide +kernel, rfl, by decide +kernel, by decide +kernel⟩
abbrev n_Span_layers : List Str := ["self", "state", "years", "rows", "_", "after", "known", "following"]
theorem sc_Span_layers : FnScope n_Span_layers ["self", "state", "years"] (defScope s_Span_layers) := ⟨rfl, rfl, rfl, by decide +kernel, rfl, by decide +kernel, by decide +kernel⟩
abbrev n_Span_with_treaty : List Str := ["self", "state", "treaty", "later", "reserve", "weather", "total", "change", "chance", "turn", "turning", "ruin"]
theorem sc_Span_with_treaty : FnScope n_Span_with_treaty ["self", "state", "treaty", "later"] (defScope s_Span_with_treaty) := ⟨rfl, rfl, rfl, by decide +kernel, rfl, by decide +kernel, by decide +kernel⟩
abbrev n_Span_best : List Str := ["self", "state", "later", "least", "treaty", "one", "ruin"]
theorem sc_Span_best : FnScope n_Span_best ["self", "state", "later"] (defScope s_Span_best) := ⟨rfl, rfl, rfl, by decide +kernel, rfl, by decide +kernel, by decide +kernel⟩
abbrev n_Span_ruin : List Str := ["self", "state", "years", "later", "rows", "row", "known"]
theorem sc_Span_ruin : FnScope n_Span_ruin ["self", "state", "years"] (defScope s_Span_ruin) := ⟨rfl, rfl, rfl, by decide +kernel, rfl, by decide +kernel, by decide +kernel⟩
abbrev n_least_ruin : List Str := ["house", "state", "years"]
theorem sc_least_ruin : FnScope n_least_ruin ["house", "state", "years"] (defScope s_least_ruin) := ⟨rfl, rfl, rfl, by decide +kernel, rfl, by decide +kernel, by decide +kernel⟩
abbrev n_best_treaty : List Str := ["house", "state", "years"]
theorem sc_best_treaty : FnScope n_best_treaty ["house", "state", "years"] (defScope s_best_treaty) := ⟨rfl, rfl, rfl, by decide +kernel, rfl, by decide +kernel, by decide +kernel⟩
abbrev n_chosen : List Str := ["plan", "state", "reserve", "weather", "row"]
theorem sc_chosen : FnScope n_chosen ["plan", "state"] (defScope s_chosen) := ⟨rfl, rfl, rfl, by decide +kernel, rfl, by decide +kernel, by decide +kernel⟩
abbrev n_plan_ruin : List Str := ["house", "plan", "state", "years"]
theorem sc_plan_ruin : FnScope n_plan_ruin ["house", "plan", "state", "years"] (defScope s_plan_ruin) := ⟨rfl, rfl, rfl, by decide +kernel, rfl, by decide +kernel, by decide +kernel⟩
abbrev n_outlook : List Str := ["house", "plan", "state", "years", "span", "ruined", "rest", "_", "after", "known", "reserve", "weather", "change", "chance", "part", "turn", "turning", "place"]
theorem sc_outlook : FnScope n_outlook ["house", "plan", "state", "years"] (defScope s_outlook) := ⟨rfl, rfl, rfl, by decide +kernel, rfl, by decide +kernel, by decide +kernel⟩
abbrev n_law_cell : List Str := ["_law_script", "_law_k"]
theorem sc_law_cell : FnScope n_law_cell ["_law_script", "_law_k"] (defScope s_law_cell) := ⟨rfl, rfl, rfl, by decide +kernel, rfl, by decide +kernel, by decide +kernel⟩
abbrev n_law_digits : List Str := ["_law_cell_here", "_law_base", "_law_most", "_law_digits_here", "_law_large", "_law_k"]
theorem sc_law_digits : FnScope n_law_digits ["_law_cell_here", "_law_base", "_law_most"] (defScope s_law_digits) := ⟨rfl, rfl, rfl, by decide +kernel, rfl, by decide +kernel, by decide +kernel⟩
abbrev n_law_fraction : List Str := ["_law_top", "_law_low", "_law_a", "_law_b", "_law_step"]
theorem sc_law_fraction : FnScope n_law_fraction ["_law_top", "_law_low"] (defScope s_law_fraction) := ⟨rfl, rfl, rfl, by decide +kernel, rfl, by decide +kernel, by decide +kernel⟩
abbrev n_law_plus : List Str := ["_law_first", "_law_second"]
theorem sc_law_plus : FnScope n_law_plus ["_law_first", "_law_second"] (defScope s_law_plus) := ⟨rfl, rfl, rfl, by decide +kernel, rfl, by decide +kernel, by decide +kernel⟩
abbrev n_law_times : List Str := ["_law_first", "_law_second"]
theorem sc_law_times : FnScope n_law_times ["_law_first", "_law_second"] (defScope s_law_times) := ⟨rfl, rfl, rfl, by decide +kernel, rfl, by decide +kernel, by decide +kernel⟩
abbrev n_law_less : List Str := ["_law_first", "_law_second"]
theorem sc_law_less : FnScope n_law_less ["_law_first", "_law_second"] (defScope s_law_less) := ⟨rfl, rfl, rfl, by decide +kernel, rfl, by decide +kernel, by decide +kernel⟩
abbrev n_law_spread : List Str := ["_law_draw", "_law_values", "_law_k", "_law_parts"]
theorem sc_law_spread : FnScope n_law_spread ["_law_draw", "_law_values"] (defScope s_law_spread) := ⟨rfl, rfl, rfl, by decide +kernel, rfl, by decide +kernel, by decide +kernel⟩
abbrev n_law_house : List Str := ["_law_first", "_law_second", "_law_sizes", "_law_draws", "_law_count", "_law_large", "_law_weathers", "_law_k", "_law_lines", "_law_many", "_law_j", "_law_draw", "_law_low", "_law_values", "_law_value", "_law_others", "_law_premium", "_law_treaties", "_law_layers"]
theorem sc_law_house : FnScope n_law_house ["_law_first", "_law_second"] (defScope s_law_house) := ⟨rfl, rfl, rfl, by decide +kernel, rfl, by decide +kernel, by decide +kernel⟩
abbrev n_law_remaining : List Str := ["_law_treaty", "_law_amount", "_law_layer"]
theorem sc_law_remaining : FnScope n_law_remaining ["_law_treaty", "_law_amount"] (defScope s_law_remaining) := ⟨rfl, rfl, rfl, by decide +kernel, rfl, by decide +kernel, by decide +kernel⟩
abbrev n_law_changes : List Str := ["_law_house_here", "_law_weather", "_law_treaty", "_law_premium", "_law_lines", "_law_turns", "_law_totals", "_law_line", "_law_longer", "_law_amount", "_law_chance", "_law_more", "_law_other", "_law_price"]
theorem sc_law_changes : FnScope n_law_changes ["_law_house_here", "_law_weather", "_law_treaty"] (defScope s_law_changes) := ⟨rfl, rfl, rfl, by decide +kernel, rfl, by decide +kernel, by decide +kernel⟩
abbrev n_law_year : List Str := ["_law_house_here", "_law_reserve", "_law_weather", "_law_treaty", "_law_found", "_law_change", "_law_chance", "_law_turn", "_law_turning"]
theorem sc_law_year : FnScope n_law_year ["_law_house_here", "_law_reserve", "_law_weather", "_law_treaty"] (defScope s_law_year) := ⟨rfl, rfl, rfl, by decide +kernel, rfl, by decide +kernel, by decide +kernel⟩
abbrev n_law_way : List Str := ["_law_house_here", "_law_state", "_law_years", "_law_draws", "_law_past", "_law_place", "_law_treaty", "_law_total", "_law_found", "_law_k", "_law_reserve", "_law_turn", "_law_chance", "_law_later"]
theorem sc_law_way : FnScope n_law_way ["_law_house_here", "_law_state", "_law_years", "_law_draws", "_law_past"] (defScope s_law_way) := ⟨rfl, rfl, rfl, by decide +kernel, rfl, by decide +kernel, by decide +kernel⟩
abbrev n_law_reached : List Str := ["_law_house_here", "_law_state", "_law_years", "_law_most", "_law_layers", "_law_total", "_law_step", "_law_after", "_law_known", "_law_treaty", "_law_reserve", "_law_turn", "_law_chance"]
theorem sc_law_reached : FnScope n_law_reached ["_law_house_here", "_law_state", "_law_years", "_law_most"] (defScope s_law_reached) := ⟨rfl, rfl, rfl, by decide +kernel, rfl, by decide +kernel, by decide +kernel⟩
abbrev n_law_least : List Str := ["_law_house_here", "_law_layers", "_law_later", "_law_treaty", "_law_k", "_law_values", "_law_state", "_law_least_here", "_law_one", "_law_total", "_law_reserve", "_law_turn", "_law_chance"]
theorem sc_law_least : FnScope n_law_least ["_law_house_here", "_law_layers"] (defScope s_law_least) := ⟨rfl, rfl, rfl, by decide +kernel, rfl, by decide +kernel, by decide +kernel⟩
abbrev n_law_forward : List Str := ["_law_house_here", "_law_plan", "_law_state", "_law_years", "_law_chances", "_law_ruined", "_law_step", "_law_after", "_law_known", "_law_row", "_law_reserve", "_law_turn", "_law_chance", "_law_part", "_law_place"]
theorem sc_law_forward : FnScope n_law_forward ["_law_house_here", "_law_plan", "_law_state", "_law_years"] (defScope s_law_forward) := ⟨rfl, rfl, rfl, by decide +kernel, rfl, by decide +kernel, by decide +kernel⟩
abbrev n_law_best : List Str := ["_law_house_here", "_law_state", "_law_years", "_law_total", "_law_reserve", "_law_turn", "_law_chance"]
theorem sc_law_best : FnScope n_law_best ["_law_house_here", "_law_state", "_law_years"] (defScope s_law_best) := ⟨rfl, rfl, rfl, by decide +kernel, rfl, by decide +kernel, by decide +kernel⟩
abbrev n_law_planned : List Str := ["_law_house_here", "_law_plan", "_law_state", "_law_years", "_law_row", "_law_total", "_law_reserve", "_law_turn", "_law_chance"]
theorem sc_law_planned : FnScope n_law_planned ["_law_house_here", "_law_plan", "_law_state", "_law_years"] (defScope s_law_planned) := ⟨rfl, rfl, rfl, by decide +kernel, rfl, by decide +kernel, by decide +kernel⟩
abbrev n_law : List Str := ["_law_script", "_law_house_here", "_law_draws", "_law_years", "_law_most", "_law_weather", "_law_state", "_law_kept", "_law_least_here", "_law_layers", "_law_due", "_law_treaty", "_law_best_here", "_law_plan", "_law_k", "_law_handed", "_law_ruin", "_law_many", "_law_forward_here", "_law_ruined", "_law_rest", "_law_total", "_law_reserve", "_law_chance"]
theorem sc_law : FnScope n_law ["_law_script"] (defScope s_law) := ⟨rfl, rfl, rfl, by decide +kernel, rfl, by decide +kernel, by decide +kernel⟩
end LC

namespace LC
open PySem PySem.Spec PyProof.Rows L2 DL

/-! fractions -/
abbrev fr (q : Rat) : PyData := .tuple [.int q.num, .int (q.den : Int)]
def big : Nat := 2 ^ 900
theorem big_eq : big = 2 ^ 900 := rfl
structure Sm (q : Rat) : Prop where
  num : q.num.natAbs < big
  den : q.den < big
def Mk (k : Nat) : Nat := 720720 ^ k
/-- a chance: between 0 and 1, its low part parts 720720 ^ k -/
structure Pr (k : Nat) (q : Rat) : Prop where
  pos : 0 ≤ q
  one : q ≤ 1
  dn : ∃ z : Int, q * ((Mk k : Nat) : Rat) = (z : Rat)
theorem Mk_pos (k : Nat) : 0 < Mk k := Nat.pow_pos (by decide)
theorem Mk_add (j k : Nat) : Mk (j + k) = Mk j * Mk k := Nat.pow_add ..
theorem natCast_mul (a b : Nat) : ((a * b : Nat) : Rat) = (a : Rat) * (b : Rat) := by
  have h := Rat.intCast_mul (a : Int) (b : Int)
  exact h
theorem Pr.mul {j k : Nat} {p q : Rat} (a : Pr j p) (b : Pr k q) : Pr (j + k) (p * q) := by
  obtain ⟨z, hz⟩ := a.dn
  obtain ⟨y, hy⟩ := b.dn
  refine ⟨Rat.mul_nonneg a.pos b.pos, ?_, z * y, ?_⟩
  · have h1 : p * q ≤ p * 1 := Rat.mul_le_mul_of_nonneg_left b.one a.pos
    have h2 := a.one
    grind
  · rw [Mk_add, natCast_mul, Rat.intCast_mul, ← hz, ← hy]
    grind
theorem Pr.up {j k : Nat} {p : Rat} (a : Pr j p) (h : j ≤ k) : Pr k p := by
  obtain ⟨z, hz⟩ := a.dn
  obtain ⟨i, rfl⟩ := Nat.exists_eq_add_of_le h
  refine ⟨a.pos, a.one, z * (Mk i : Nat), ?_⟩
  rw [Mk_add, natCast_mul, Rat.intCast_mul, ← hz]
  show p * _ = p * _ * ((Mk i : Nat) : Rat)
  grind
theorem Pr.add {k : Nat} {p q : Rat} (a : Pr k p) (b : Pr k q) (h : p + q ≤ 1) : Pr k (p + q) := by
  obtain ⟨z, hz⟩ := a.dn
  obtain ⟨y, hy⟩ := b.dn
  have h1 := a.pos
  have h2 := b.pos
  refine ⟨by grind, h, z + y, ?_⟩
  rw [Rat.intCast_add, ← hz, ← hy]
  grind
theorem Pr.zero {k : Nat} : Pr k 0 := ⟨by decide, by decide, 0, by simp⟩
theorem Pr.whole {k : Nat} : Pr k 1 := ⟨by decide, by decide, (Mk k : Nat), by rw [Rat.one_mul]; rfl⟩
theorem den_le {q : Rat} {n : Nat} (hn : 0 < n) {z : Int} (h : q * (n : Rat) = (z : Rat)) : q.den ≤ n := by
  have e : q = mkRat z n := by
    rw [Rat.mkRat_eq_div]
    have : (n : Rat) ≠ 0 := by
      intro h0
      have : ((n : Int) : Rat) = ((0 : Int) : Rat) := h0
      rw [Rat.intCast_inj] at this
      omega
    rw [← h]
    show q = q * (n : Rat) / ((n : Int) : Rat)
    have e2 : ((n : Int) : Rat) = (n : Rat) := rfl
    rw [e2, Rat.div_def, Rat.mul_assoc, Rat.mul_inv_cancel _ this, Rat.mul_one]
  rw [e, Rat.den_mkRat]
  split
  · omega
  · exact Nat.div_le_self _ _
theorem Pr.num_le {k : Nat} {q : Rat} (h : Pr k q) : q.num.natAbs ≤ q.den := by
  have h1 := h.one
  have h2 := Rat.num_nonneg.mpr h.pos
  rw [Rat.le_iff] at h1
  have e1 : (1 : Rat).num = 1 := rfl
  have e2 : (1 : Rat).den = 1 := rfl
  rw [e1, e2] at h1
  omega
theorem Pr.sm {k : Nat} {q : Rat} (h : Pr k q) (hk : k ≤ 45) : Sm q := by
  obtain ⟨z, hz⟩ := (h.up hk).dn
  have h1 := den_le (Mk_pos 45) hz
  have h2 : Mk 45 < big := by unfold Mk big; decide +kernel
  have h3 := h.num_le
  exact ⟨by omega, by omega⟩
theorem Sm.log {q : Rat} (h : Sm q) : q.den.log2 < 900 ∧ q.num.natAbs.log2 < 901 := by
  have h1 := h.num
  have h2 := h.den
  rw [big_eq] at h1 h2
  constructor
  · rw [Nat.log2_lt q.den_nz]; exact h2
  · by_cases e : q.num.natAbs = 0
    · rw [e]; decide
    · rw [Nat.log2_lt e]
      exact Nat.lt_of_lt_of_le h1 (Nat.pow_le_pow_right (by decide) (by decide))
theorem fr_add (p q : Rat) : mkRat (p.num * (q.den : Int) + q.num * (p.den : Int)) (p.den * q.den) = p + q := by
  rw [← Rat.mkRat_add_mkRat _ _ p.den_nz q.den_nz, Rat.mkRat_self, Rat.mkRat_self]
theorem fr_mul (p q : Rat) : mkRat (p.num * q.num) (p.den * q.den) = p * q := by
  rw [← Rat.mkRat_mul_mkRat, Rat.mkRat_self, Rat.mkRat_self]
theorem fr_lt (p q : Rat) : decide (p.num * (q.den : Int) < q.num * (p.den : Int)) = decide (p < q) := decide_eq_decide.mpr (Rat.lt_iff p q).symm
theorem fr_norm {n : Int} {m : Nat} (h : 0 < m) : fr (mkRat n m) = .tuple [.int (n / (Nat.gcd n.natAbs m : Nat)), .int ((m : Int) / (Nat.gcd n.natAbs m : Nat))] := by
  rw [← Rat.normalize_eq_mkRat (by omega), Rat.normalize_eq]
  show PyData.tuple [_, _] = _
  rw [← Int.natCast_ediv]
theorem fr_inj {p q : Rat} (h : fr p = fr q) : p = q := by
  injection h with h
  injection h with h1 h2
  injection h2 with h2 _
  injection h1 with h1
  injection h2 with h2
  exact Rat.ext h1 (by omega)

/-! sums -/
def sumF {α : Type} (f : α → Rat) : List α → Rat
  | [] => 0
  | x :: xs => f x + sumF f xs
section
variable {α β : Type} {f g : α → Rat}
theorem sumF_append (xs ys : List α) : sumF f (xs ++ ys) = sumF f xs + sumF f ys := by
  induction xs with
  | nil => show _ = 0 + _; rw [Rat.zero_add]; rfl
  | cons x xs ih => show f x + sumF f (xs ++ ys) = f x + sumF f xs + sumF f ys; rw [ih]; grind
theorem sumF_map (h : β → α) (xs : List β) : sumF f (xs.map h) = sumF (fun x => f (h x)) xs := by
  induction xs with
  | nil => rfl
  | cons x xs ih => show f (h x) + sumF f (xs.map h) = _; rw [ih]; rfl
theorem sumF_flatMap (h : β → List α) (xs : List β) : sumF f (xs.flatMap h) = sumF (fun x => sumF f (h x)) xs := by
  induction xs with
  | nil => rfl
  | cons x xs ih => rw [List.flatMap_cons, sumF_append, ih]; rfl
theorem sumF_congr {xs : List α} (h : ∀ x ∈ xs, f x = g x) : sumF f xs = sumF g xs := by
  induction xs with
  | nil => rfl
  | cons x xs ih =>
    show f x + sumF f xs = g x + sumF g xs
    rw [h x List.mem_cons_self, ih fun y m => h y (List.mem_cons_of_mem _ m)]
theorem sumF_mul (c : Rat) (xs : List α) : sumF (fun x => c * f x) xs = c * sumF f xs := by
  induction xs with
  | nil => show (0 : Rat) = c * 0; rw [Rat.mul_zero]
  | cons x xs ih => show c * f x + sumF (fun x => c * f x) xs = c * (f x + sumF f xs); rw [ih]; grind
theorem sumF_add (xs : List α) : sumF (fun x => f x + g x) xs = sumF f xs + sumF g xs := by
  induction xs with
  | nil => show (0 : Rat) = 0 + 0; rw [Rat.zero_add]
  | cons x xs ih => show f x + g x + sumF (fun x => f x + g x) xs = f x + sumF f xs + (g x + sumF g xs); rw [ih]; grind
theorem sumF_nonneg {xs : List α} (h : ∀ x ∈ xs, 0 ≤ f x) : 0 ≤ sumF f xs := by
  induction xs with
  | nil => show (0 : Rat) ≤ 0; exact Rat.le_refl
  | cons x xs ih =>
    have h1 := h x List.mem_cons_self
    have h2 := ih fun y m => h y (List.mem_cons_of_mem _ m)
    show 0 ≤ f x + sumF f xs
    grind
theorem sumF_le {xs : List α} (h : ∀ x ∈ xs, f x ≤ g x) : sumF f xs ≤ sumF g xs := by
  induction xs with
  | nil => show (0 : Rat) ≤ 0; exact Rat.le_refl
  | cons x xs ih =>
    have h1 := h x List.mem_cons_self
    have h2 := ih fun y m => h y (List.mem_cons_of_mem _ m)
    show f x + sumF f xs ≤ g x + sumF g xs
    grind
theorem sumF_perm {xs ys : List α} (p : xs.Perm ys) : sumF f xs = sumF f ys := by
  induction p with
  | nil => rfl
  | cons x _ ih => show f x + _ = f x + _; rw [ih]
  | swap x y l => show f y + (f x + sumF f l) = f x + (f y + sumF f l); grind
  | trans _ _ h1 h2 => exact h1.trans h2
theorem sumF_take_le {xs : List α} (h : ∀ x ∈ xs, 0 ≤ f x) (k : Nat) : sumF f (xs.take k) ≤ sumF f xs := by
  have e : sumF f xs = sumF f (xs.take k) + sumF f (xs.drop k) := by rw [← sumF_append, List.take_append_drop]
  have h2 : 0 ≤ sumF f (xs.drop k) := sumF_nonneg fun x m => h x ((List.drop_sublist k xs).subset m)
  grind
theorem sumF_mem_le {xs : List α} (h : ∀ x ∈ xs, 0 ≤ f x) {x : α} (m : x ∈ xs) : f x ≤ sumF f xs := by
  induction xs with
  | nil => cases m
  | cons y xs ih =>
    have h1 := h y List.mem_cons_self
    have h2 : 0 ≤ sumF f xs := sumF_nonneg fun z m => h z (List.mem_cons_of_mem _ m)
    show f x ≤ f y + sumF f xs
    rcases List.mem_cons.mp m with rfl | m
    · grind
    · have := ih (fun z m => h z (List.mem_cons_of_mem _ m)) m
      grind
theorem foldl_sum (xs : List α) (t : Rat) : xs.foldl (fun t x => t + f x) t = t + sumF f xs := by
  induction xs generalizing t with
  | nil => show t = t + 0; rw [Rat.add_zero]
  | cons x xs ih => show xs.foldl (fun t x => t + f x) (t + f x) = t + (f x + sumF f xs); rw [ih]; grind
/-- partial sums are chances -/
theorem Pr.pre {k : Nat} {xs : List α} {t : Rat} (ht : Pr k t) (h : ∀ x ∈ xs, Pr k (f x)) (hs : t + sumF f xs ≤ 1) (j : Nat) : Pr k (t + sumF f (xs.take j)) := by
  have nn : ∀ x ∈ xs, 0 ≤ f x := fun x m => (h x m).pos
  have key : ∀ ys : List α, (∀ x ∈ ys, Pr k (f x)) → ∀ t, Pr k t → t + sumF f ys ≤ 1 → Pr k (t + sumF f ys) := by
    intro ys
    induction ys with
    | nil => intro _ t ht _; show Pr k (t + 0); rw [Rat.add_zero]; exact ht
    | cons y ys ih =>
      intro hy t ht hs
      have e : t + sumF f (y :: ys) = t + f y + sumF f ys := by show t + (f y + sumF f ys) = _; grind
      rw [e] at hs ⊢
      have p2 : 0 ≤ sumF f ys := sumF_nonneg fun x m => (hy x (List.mem_cons_of_mem _ m)).pos
      exact ih (fun x m => hy x (List.mem_cons_of_mem _ m)) _ (ht.add (hy y List.mem_cons_self) (by grind)) hs
  refine key _ (fun x m => h x ((List.take_sublist j xs).subset m)) t ht ?_
  have := sumF_take_le nn j
  grind
theorem Pr.tot {k : Nat} {xs : List α} {t : Rat} (ht : Pr k t) (h : ∀ x ∈ xs, Pr k (f x)) (hs : t + sumF f xs ≤ 1) : Pr k (t + sumF f xs) := by
  have := ht.pre h hs xs.length
  rw [List.take_length] at this
  exact this
theorem Pr.sum {k : Nat} {xs : List α} (h : ∀ x ∈ xs, Pr k (f x)) (hs : sumF f xs ≤ 1) : Pr k (sumF f xs) := by
  have := (Pr.zero (k := k)).tot h (by rw [Rat.zero_add]; exact hs)
  rw [Rat.zero_add] at this
  exact this
end
end LC

namespace LC
open PySem PySem.Spec PyProof.Rows L2 DL

/-! tables of sums -/
section
variable {κ : Type} [DecidableEq κ]
def gst {κ : Type} [DecidableEq κ] (t : List (κ × Rat)) (x : κ × Rat) : List (κ × Rat) := put t x.1 ((look t x.1).getD 0 + x.2)
def gtab (items : List (κ × Rat)) : List (κ × Rat) := items.foldl gst []
theorem look_nil {β : Type} (k : κ) : look ([] : List (κ × β)) k = none := rfl
theorem look_cons {β : Type} (k k0 : κ) (b : β) (l : List (κ × β)) : look ((k0, b) :: l) k = if k0 = k then some b else look l k := by
  unfold look
  rw [List.find?_cons]
  by_cases e : k0 = k
  · simp [e]
  · simp [e]
theorem look_none {β : Type} {k : κ} : ∀ {l : List (κ × β)}, k ∉ l.map (·.1) → look l k = none
  | [], _ => rfl
  | (k0, b) :: l, h => by
    rw [List.map_cons, List.mem_cons, not_or] at h
    rw [look_cons, if_neg fun e => h.1 e.symm, look_none h.2]
theorem look_mem {β : Type} {k : κ} {b : β} : ∀ {l : List (κ × β)}, (l.map (·.1)).Nodup → (k, b) ∈ l → look l k = some b
  | (k0, b0) :: l, nd, h => by
    rw [List.map_cons, List.nodup_cons] at nd
    rw [look_cons]
    rcases List.mem_cons.mp h with h | h
    · injection h with h1 h2
      rw [if_pos h1.symm, h2]
    · have : k0 ≠ k := fun e => nd.1 (by rw [e]; exact List.mem_map.mpr ⟨_, h, rfl⟩)
      rw [if_neg this]
      exact look_mem nd.2 h
theorem look_some {β : Type} {k : κ} {b : β} : ∀ {l : List (κ × β)}, look l k = some b → (k, b) ∈ l
  | (k0, b0) :: l, h => by
    rw [look_cons] at h
    by_cases e : k0 = k
    · rw [if_pos e] at h
      cases h
      rw [e]
      exact List.mem_cons_self
    · rw [if_neg e] at h
      exact List.mem_cons_of_mem _ (look_some h)
theorem put_in {β : Type} {l : List (κ × β)} {k : κ} {b : β} (h : k ∈ l.map (·.1)) : put l k b = l.map fun x => if x.1 = k then (x.1, b) else x := by
  unfold put
  rw [if_pos]
  obtain ⟨x, hx, e⟩ := List.mem_map.mp h
  exact List.any_eq_true.mpr ⟨x, hx, by simpa using e⟩
theorem put_out {β : Type} {l : List (κ × β)} {k : κ} {b : β} (h : k ∉ l.map (·.1)) : put l k b = l ++ [(k, b)] := by
  unfold put
  rw [if_neg]
  intro z
  obtain ⟨x, hx, e⟩ := List.any_eq_true.mp z
  exact h (List.mem_map.mpr ⟨x, hx, by simpa using e⟩)
theorem put_keys {β : Type} (l : List (κ × β)) (k : κ) (b : β) : (put l k b).map (·.1) = if k ∈ l.map (·.1) then l.map (·.1) else l.map (·.1) ++ [k] := by
  by_cases h : k ∈ l.map (·.1)
  · rw [if_pos h, put_in h, List.map_map]
    refine List.map_congr_left fun x _ => ?_
    show (if x.1 = k then (x.1, b) else x).1 = x.1
    split <;> rfl
  · rw [if_neg h, put_out h, List.map_append]
    rfl
theorem put_nodup {β : Type} {l : List (κ × β)} (k : κ) (b : β) (nd : (l.map (·.1)).Nodup) : ((put l k b).map (·.1)).Nodup := by
  rw [put_keys]
  split
  · exact nd
  · rename_i h
    exact List.nodup_append.mpr ⟨nd, by simp, fun x hx y hy e => by
      rw [List.mem_singleton.mp hy] at e
      exact h (e ▸ hx)⟩
theorem put_keymem {β : Type} {l : List (κ × β)} {k : κ} {b : β} {x : κ} : x ∈ (put l k b).map (·.1) ↔ x ∈ l.map (·.1) ∨ x = k := by
  rw [put_keys]
  split
  · rename_i h
    constructor
    · exact .inl
    · rintro (h1 | rfl)
      · exact h1
      · exact h
  · rw [List.mem_append, List.mem_singleton]
theorem put_mem {β : Type} {l : List (κ × β)} {k : κ} {b : β} {x : κ × β} (h : x ∈ put l k b) : x ∈ l ∨ x = (k, b) := by
  by_cases e : k ∈ l.map (·.1)
  · rw [put_in e] at h
    obtain ⟨y, hy, rfl⟩ := List.mem_map.mp h
    by_cases e2 : y.1 = k
    · rw [if_pos e2, e2]; exact .inr rfl
    · rw [if_neg e2]; exact .inl hy
  · rw [put_out e] at h
    rcases List.mem_append.mp h with h | h
    · exact .inl h
    · exact .inr (List.mem_singleton.mp h)
theorem put_map {β γ : Type} (f : β → γ) (l : List (κ × β)) (k : κ) (b : β) : put (l.map fun x => (x.1, f x.2)) k (f b) = (put l k b).map fun x => (x.1, f x.2) := by
  have e : (l.map fun x => (x.1, f x.2)).map (·.1) = l.map (·.1) := by rw [List.map_map]; rfl
  by_cases h : k ∈ l.map (·.1)
  · rw [put_in h, put_in (by rw [e]; exact h), List.map_map, List.map_map]
    refine List.map_congr_left fun x _ => ?_
    show (if x.1 = k then (x.1, f b) else (x.1, f x.2)) = ((if x.1 = k then (x.1, b) else x).1, f (if x.1 = k then (x.1, b) else x).2)
    split <;> rfl
  · rw [put_out h, put_out (by rw [e]; exact h), List.map_append]
    rfl
theorem look_map {β γ : Type} (f : β → γ) (k : κ) : ∀ l : List (κ × β), look (l.map fun x => (x.1, f x.2)) k = (look l k).map f
  | [] => rfl
  | (k0, b) :: l => by
    rw [List.map_cons, look_cons, look_cons, look_map f k l]
    by_cases h : k0 = k
    · rw [if_pos h, if_pos h]; rfl
    · rw [if_neg h, if_neg h]
theorem look_mapD (f : Rat → PyData) (k : κ) (l : List (κ × Rat)) : (look (l.map fun x => (x.1, f x.2)) k).getD (f 0) = f ((look l k).getD 0) := by
  rw [look_map]
  cases look l k <;> rfl
theorem sum_put (g : κ → Rat) (c : Rat) (k : κ) : ∀ {t : List (κ × Rat)}, (t.map (·.1)).Nodup → sumF (fun x => x.2 * g x.1) (put t k ((look t k).getD 0 + c)) = sumF (fun x => x.2 * g x.1) t + c * g k := by
  intro t nd
  by_cases h : k ∈ t.map (·.1)
  · rw [put_in h]
    have key : ∀ (t : List (κ × Rat)), (t.map (·.1)).Nodup → k ∈ t.map (·.1) → sumF (fun x => x.2 * g x.1) (t.map fun x => if x.1 = k then (x.1, (look t k).getD 0 + c) else x) = sumF (fun x => x.2 * g x.1) t + c * g k := by
      intro t
      induction t with
      | nil => intro _ h; cases h
      | cons y t ih =>
        obtain ⟨k0, b⟩ := y
        intro nd h
        rw [List.map_cons, List.nodup_cons] at nd
        by_cases e : k0 = k
        · subst e
          have e1 : (t.map fun x => if x.1 = k0 then (x.1, (look ((k0, b) :: t) k0).getD 0 + c) else x) = t := by
            rw [List.map_congr_left (g := id) (fun x hx => ?_), List.map_id]
            rw [if_neg fun z => nd.1 (by rw [← z]; exact List.mem_map.mpr ⟨x, hx, rfl⟩)]
            rfl
          rw [List.map_cons, if_pos rfl, e1, look_cons, if_pos rfl]
          show (b + c) * g k0 + sumF _ t = b * g k0 + sumF _ t + c * g k0
          grind
        · have h2 : k ∈ t.map (·.1) := by
            rw [List.map_cons] at h
            rcases List.mem_cons.mp h with h | h
            · exact absurd h.symm e
            · exact h
          rw [List.map_cons, if_neg e, look_cons, if_neg e]
          show b * g k0 + sumF _ _ = b * g k0 + sumF _ t + c * g k
          rw [ih nd.2 h2]
          grind
    exact key t nd h
  · rw [put_out h, look_none h, sumF_append]
    show _ + ((0 + c) * g k + 0) = _
    grind
/-- what such a table is -/
structure Gt (kk : Nat) (items t : List (κ × Rat)) : Prop where
  nd : (t.map (·.1)).Nodup
  pr : ∀ x ∈ t, Pr kk x.2 ∧ 0 < x.2
  sum : ∀ g : κ → Rat, sumF (fun x => x.2 * g x.1) t = sumF (fun x => x.2 * g x.1) items
  keys : ∀ k, k ∈ t.map (·.1) ↔ k ∈ items.map (·.1)
  len : t.length ≤ items.length
theorem gst_ok {kk : Nat} {items t : List (κ × Rat)} {x : κ × Rat} (h : Gt kk items t) (hx : Pr kk x.2) (hp : 0 < x.2) (hs : sumF (·.2) items + x.2 ≤ 1) : Gt kk (items ++ [x]) (gst t x) ∧ Pr kk ((look t x.1).getD 0) ∧ Pr kk ((look t x.1).getD 0 + x.2) := by
  have s1 : sumF (·.2) t = sumF (·.2) items := by
    have := h.sum fun _ => 1
    rw [sumF_congr (g := (·.2)) (fun x _ => by rw [Rat.mul_one]), sumF_congr (f := fun x : κ × Rat => x.2 * 1) (g := (·.2)) (fun x _ => by rw [Rat.mul_one])] at this
    exact this
  have nn : ∀ y ∈ t, 0 ≤ y.2 := fun y hy => (h.pr y hy).1.pos
  have l1 : Pr kk ((look t x.1).getD 0) ∧ (look t x.1).getD 0 ≤ sumF (·.2) t := by
    cases e : look t x.1 with
    | none => exact ⟨Pr.zero, sumF_nonneg nn⟩
    | some b => exact ⟨(h.pr _ (look_some e)).1, sumF_mem_le (f := (·.2)) nn (look_some e)⟩
  have l2 : Pr kk ((look t x.1).getD 0 + x.2) := l1.1.add hx (by have := l1.2; grind)
  refine ⟨⟨put_nodup _ _ h.nd, fun y hy => ?_, fun g => ?_, fun k => ?_, ?_⟩, l1.1, l2⟩
  · rcases put_mem hy with hy | rfl
    · exact h.pr y hy
    · refine ⟨l2, ?_⟩
      have := l1.1.pos
      show 0 < (look t x.1).getD 0 + x.2
      grind
  · unfold gst
    rw [sum_put g _ _ h.nd, sumF_append, h.sum g]
    show _ = _ + (x.2 * g x.1 + 0)
    rw [Rat.add_zero]
  · unfold gst
    rw [put_keymem, h.keys, List.map_append, List.mem_append]
    show _ ∨ _ ↔ _ ∨ k ∈ [x.1]
    rw [List.mem_singleton]
  · have := put_len t x.1 ((look t x.1).getD 0 + x.2)
    rw [List.length_append, List.length_singleton]
    have := h.len
    unfold gst
    omega
theorem gt_nil {kk : Nat} : Gt (κ := κ) kk [] [] := ⟨List.nodup_nil, (fun x h => nomatch h), fun g => rfl, fun k => Iff.rfl, Nat.le_refl _⟩
theorem gt_fold {kk : Nat} : ∀ (more items t : List (κ × Rat)), Gt kk items t → (∀ x ∈ more, Pr kk x.2 ∧ 0 < x.2) → sumF (·.2) items + sumF (·.2) more ≤ 1 → Gt kk (items ++ more) (more.foldl gst t)
  | [], items, t, h, _, _ => by rw [List.append_nil]; exact h
  | x :: more, items, t, h, hx, hs => by
    have n2 : 0 ≤ sumF (·.2) more := sumF_nonneg fun y hy => (hx y (List.mem_cons_of_mem _ hy)).1.pos
    have e : sumF (·.2) (x :: more) = x.2 + sumF (·.2) more := rfl
    rw [e] at hs
    have h1 := (gst_ok h (hx x List.mem_cons_self).1 (hx x List.mem_cons_self).2 (by grind)).1
    have e2 : sumF (·.2) (items ++ [x]) = sumF (·.2) items + x.2 := by
      rw [sumF_append]
      show _ + (x.2 + 0) = _
      rw [Rat.add_zero]
    have h2 := gt_fold more (items ++ [x]) _ h1 (fun y hy => hx y (List.mem_cons_of_mem _ hy)) (by rw [e2]; grind)
    rw [List.append_assoc] at h2
    exact h2
theorem gt_tab {kk : Nat} {items : List (κ × Rat)} (hx : ∀ x ∈ items, Pr kk x.2 ∧ 0 < x.2) (hs : sumF (·.2) items ≤ 1) : Gt kk items (gtab items) := by
  have := gt_fold items [] [] (gt_nil (kk := kk)) hx (by show (0 : Rat) + _ ≤ 1; rw [Rat.zero_add]; exact hs)
  exact this
/-- value by key: the sum of that key's items -/
theorem Gt.val {kk : Nat} {items t : List (κ × Rat)} (h : Gt kk items t) {k : κ} {b : Rat} (hm : (k, b) ∈ t) : b = sumF (fun x => x.2 * (if x.1 = k then 1 else 0)) items := by
  rw [← h.sum fun y => if y = k then 1 else 0]
  have nd := h.nd
  clear h
  induction t with
  | nil => cases hm
  | cons y t ih =>
    rw [List.map_cons, List.nodup_cons] at nd
    show b = y.2 * (if y.1 = k then 1 else 0) + sumF _ t
    have zero : ∀ t : List (κ × Rat), k ∉ t.map (·.1) → sumF (fun x => x.2 * (if x.1 = k then 1 else 0)) t = 0 := by
      intro t
      induction t with
      | nil => intro _; rfl
      | cons z t ih2 =>
        intro hn
        rw [List.map_cons, List.mem_cons, not_or] at hn
        show z.2 * (if z.1 = k then 1 else 0) + sumF _ t = 0
        rw [if_neg fun e => hn.1 e.symm, ih2 hn.2]
        grind
    rcases List.mem_cons.mp hm with rfl | hm
    · rw [if_pos rfl, zero t nd.1]
      show b = b * 1 + 0
      grind
    · have : y.1 ≠ k := fun e => nd.1 (by rw [e]; exact List.mem_map.mpr ⟨_, hm, rfl⟩)
      rw [if_neg this, ← ih hm nd.2]
      grind
end
end LC

namespace LC
open PySem PySem.Spec PyProof.Rows L2 DL

/-- a def of the top -/
def Gd (K : PySem.W.Frag) (mg : Str → Option Value) (x : Str) (st : Stmt) : Prop := ∃ f fd, mg x = some (.ref f) ∧ Fun K x x st f fd
/-- a method of the one class -/
def Md (K : PySem.W.Frag) (C : Addr) (m qual : Str) (st : Stmt) : Prop := ∃ f fd, Meth K C m f ∧ Fun K m qual st f fd
/-- a pair of ints of the top -/
def Kp (K : PySem.W.Frag) (mg : Str → Option Value) (x : Str) (i j : Int) : Prop := ∃ (a : Addr) (o : Obj) (its : Array Value) (n : Nat), mg x = some (.ref a) ∧ K.lookup a = some o ∧ o.cls = .type "tuple" ∧ o.data = .seq its n ∧ ∃ t u, its = #[.int i t, .int j u]
/-- what the top has left -/
structure Tx (K : PySem.W.Frag) (mg : Str → Option Value) : Prop where
  gcd : mg "gcd" = some (.builtin "math.gcd")
  kNONE : Kp K mg "NONE" 0 1
  kWHOLE : Kp K mg "WHOLE" 1 1
  kLARGEST : ∃ t, mg "LARGEST" = some (.int 1000 t)
  kMAX_VALUES : ∃ t, mg "MAX_VALUES" = some (.int 30 t)
  kMAX_LAYERS : ∃ t, mg "MAX_LAYERS" = some (.int 4 t)
  kMAX_WEATHERS : ∃ t, mg "MAX_WEATHERS" = some (.int 4 t)
  kMAX_TREATIES : ∃ t, mg "MAX_TREATIES" = some (.int 4 t)
  kMAX_LINES : ∃ t, mg "MAX_LINES" = some (.int 3 t)
  kMAX_YEARS : ∃ t, mg "MAX_YEARS" = some (.int 60 t)
  kMAX_RESERVE : ∃ t, mg "MAX_RESERVE" = some (.int 100000 t)
  kMAX_STATES : ∃ t, mg "MAX_STATES" = some (.int 20000 t)
  b_len : mg "len" = none
  b_range : mg "range" = none
  b_sum : mg "sum" = none
  b_sorted : mg "sorted" = none
  b_isinstance : mg "isinstance" = none
  b_abs : mg "abs" = none
  b_min : mg "min" = none
  b_max : mg "max" = none
  b_int : mg "int" = none
  b_list : mg "list" = none
  b_any : mg "any" = none
  b_all : mg "all" = none
  b_reversed : mg "reversed" = none
  b_repr : mg "repr" = none
  b_tuple : mg "tuple" = none
  b_bool : mg "bool" = none
  g_fraction : Gd K mg "fraction" s_fraction
  g_plus : Gd K mg "plus" s_plus
  g_times : Gd K mg "times" s_times
  g_is_less : Gd K mg "is_less" s_is_less
  g_is_fraction : Gd K mg "is_fraction" s_is_fraction
  g_sum_all : Gd K mg "sum_all" s_sum_all
  g_check_spread : Gd K mg "check_spread" s_check_spread
  g_gathered : Gd K mg "gathered" s_gathered
  g_sum_of : Gd K mg "sum_of" s_sum_of
  g_shifted : Gd K mg "shifted" s_shifted
  g_require : Gd K mg "require" s_require
  g_check_damage : Gd K mg "check_damage" s_check_damage
  g_is_amount : Gd K mg "is_amount" s_is_amount
  g_check_layer : Gd K mg "check_layer" s_check_layer
  g_check_treaty : Gd K mg "check_treaty" s_check_treaty
  g_remaining : Gd K mg "remaining" s_remaining
  g_after_treaty : Gd K mg "after_treaty" s_after_treaty
  g_check_valid : Gd K mg "check_valid" s_check_valid
  g_check_weather : Gd K mg "check_weather" s_check_weather
  g_check_house : Gd K mg "check_house" s_check_house
  g_weather_at : Gd K mg "weather_at" s_weather_at
  g_total_damage : Gd K mg "total_damage" s_total_damage
  g_change_of : Gd K mg "change_of" s_change_of
  g_all_changes : Gd K mg "all_changes" s_all_changes
  g_check_state : Gd K mg "check_state" s_check_state
  g_least_ruin : Gd K mg "least_ruin" s_least_ruin
  g_best_treaty : Gd K mg "best_treaty" s_best_treaty
  g_chosen : Gd K mg "chosen" s_chosen
  g_plan_ruin : Gd K mg "plan_ruin" s_plan_ruin
  g_outlook : Gd K mg "outlook" s_outlook
  g_law_cell : Gd K mg "_law_cell" s_law_cell
  g_law_digits : Gd K mg "_law_digits" s_law_digits
  g_law_fraction : Gd K mg "_law_fraction" s_law_fraction
  g_law_plus : Gd K mg "_law_plus" s_law_plus
  g_law_times : Gd K mg "_law_times" s_law_times
  g_law_less : Gd K mg "_law_less" s_law_less
  g_law_spread : Gd K mg "_law_spread" s_law_spread
  g_law_house : Gd K mg "_law_house" s_law_house
  g_law_remaining : Gd K mg "_law_remaining" s_law_remaining
  g_law_changes : Gd K mg "_law_changes" s_law_changes
  g_law_year : Gd K mg "_law_year" s_law_year
  g_law_way : Gd K mg "_law_way" s_law_way
  g_law_reached : Gd K mg "_law_reached" s_law_reached
  g_law_least : Gd K mg "_law_least" s_law_least
  g_law_forward : Gd K mg "_law_forward" s_law_forward
  g_law_best : Gd K mg "_law_best" s_law_best
  g_law_planned : Gd K mg "_law_planned" s_law_planned
  g_law : Gd K mg "law" s_law
  span : ∃ C, mg "Span" = some (.ref C) ∧ Cls K C ∧ NoAttr K C "house" ∧ NoAttr K C "plan" ∧ NoAttr K C "changes" ∧ NoAttr K C "count" ∧ (∃ f fd, L2.Mk K C f ∧ Fun K "__init__" "Span.__init__" s_Span_init f fd) ∧ Md K C "treaties" "Span.treaties" s_Span_treaties ∧ Md K C "following" "Span.following" s_Span_following ∧ Md K C "layers" "Span.layers" s_Span_layers ∧ Md K C "with_treaty" "Span.with_treaty" s_Span_with_treaty ∧ Md K C "best" "Span.best" s_Span_best ∧ Md K C "ruin" "Span.ruin" s_Span_ruin
end LC

namespace LC
open PySem PySem.Spec PyProof.Rows L2 DL

section
variable {X : Cx} {S : SS} {e a b c o : Expr} {d d1 d2 d3 : PyData} {pos : Pos}
theorem kp_is {K : PySem.W.Frag} {mg : Str → Option Value} {x : Str} {i j : Int} (h : Kp K mg x i j) : ∃ a, mg x = some (.ref a) ∧ ∀ H, Is K H (.ref a) (.tuple [.int i, .int j]) := by
  obtain ⟨a, o, its, n, h1, h2, h3, h4, t, u, rfl⟩ := h
  exact ⟨a, h1, fun H => .tup (xs := [.int i, .int j]) (.inr ⟨o, _, n, h2, h3, h4, by show 2 ≤ 16777216; decide, .cons ⟨_, rfl⟩ (.cons ⟨_, rfl⟩ .nil)⟩) (.cons (.int i) (.cons (.int j) .nil))⟩
theorem ve_none {K : PySem.W.Frag} (T : Tx X.K X.mg) (hg : Gl X "NONE" := by rfl) : VE X S (.Name "NONE" pos) (fr 0) := by
  obtain ⟨a, h1, h2⟩ := kp_is T.kNONE
  exact ve_glob (v := .ref a) h1 rfl h2 hg
theorem ve_whole (T : Tx X.K X.mg) (hg : Gl X "WHOLE" := by rfl) : VE X S (.Name "WHOLE" pos) (fr 1) := by
  obtain ⟨a, h1, h2⟩ := kp_is T.kWHOLE
  exact ve_glob (v := .ref a) h1 rfl h2 hg
theorem ve_kint {x : Str} {v : Int} (h : ∃ t, X.mg x = some (.int v t)) (hg : Gl X x := by rfl) (h1 : (x == ("__debug__" : Str)) = false := by decide) : VE X S (.Name x pos) (.int v) := by
  obtain ⟨t, h⟩ := h
  exact ve_glob (v := .int v) h ⟨_, rfl⟩ (fun H => .int v) hg h1
theorem ve_fr0 {q : Rat} {j : Nat} {pp : Pos} (h : VE X S e (fr q)) : VE X S (.Subscript e (.Constant (.int 0) j pp) pos) (.int q.num) := ve_ixT h ve_int rfl
theorem ve_fr1 {q : Rat} {j : Nat} {pp : Pos} (h : VE X S e (fr q)) : VE X S (.Subscript e (.Constant (.int 1) j pp) pos) (.int (q.den : Int)) := ve_ixT h ve_int rfl
end
theorem bind1 {K : PySem.W.Frag} {x qual : Str} {st : Stmt} {f : Addr} {fd : FuncData} {p1 : Str} (F : Fun K x qual st f fd)
    (h : ∀ (kV doc pm : Value) (an : Option Addr) (cdv ct : Value) (u : Value), bindArgs (PySem.W.fnOf x qual (defArgs st) (defBody st) (defScope st) .none kV doc pm an cdv ct) ⟨[u], []⟩ = pure ([p1].zip [u]) := by exact fun _ _ _ _ _ _ _ => rfl) : Binds K fd [p1] [] :=
  F.binds fun kV doc pm an cdv ct us hl => match us, hl with | [u], _ => h kV doc pm an cdv ct u
theorem bind2 {K : PySem.W.Frag} {x qual : Str} {st : Stmt} {f : Addr} {fd : FuncData} {p1 p2 : Str} (F : Fun K x qual st f fd)
    (h : ∀ (kV doc pm : Value) (an : Option Addr) (cdv ct : Value) (u v : Value), bindArgs (PySem.W.fnOf x qual (defArgs st) (defBody st) (defScope st) .none kV doc pm an cdv ct) ⟨[u, v], []⟩ = pure ([p1, p2].zip [u, v]) := by exact fun _ _ _ _ _ _ _ _ => rfl) : Binds K fd [p1, p2] [] :=
  F.binds fun kV doc pm an cdv ct us hl => match us, hl with | [u, v], _ => h kV doc pm an cdv ct u v
theorem bind3 {K : PySem.W.Frag} {x qual : Str} {st : Stmt} {f : Addr} {fd : FuncData} {p1 p2 p3 : Str} (F : Fun K x qual st f fd)
    (h : ∀ (kV doc pm : Value) (an : Option Addr) (cdv ct : Value) (u v w : Value), bindArgs (PySem.W.fnOf x qual (defArgs st) (defBody st) (defScope st) .none kV doc pm an cdv ct) ⟨[u, v, w], []⟩ = pure ([p1, p2, p3].zip [u, v, w]) := by exact fun _ _ _ _ _ _ _ _ _ => rfl) : Binds K fd [p1, p2, p3] [] :=
  F.binds fun kV doc pm an cdv ct us hl => match us, hl with | [u, v, w], _ => h kV doc pm an cdv ct u v w
theorem bind4 {K : PySem.W.Frag} {x qual : Str} {st : Stmt} {f : Addr} {fd : FuncData} {p1 p2 p3 p4 : Str} (F : Fun K x qual st f fd)
    (h : ∀ (kV doc pm : Value) (an : Option Addr) (cdv ct : Value) (u v w z : Value), bindArgs (PySem.W.fnOf x qual (defArgs st) (defBody st) (defScope st) .none kV doc pm an cdv ct) ⟨[u, v, w, z], []⟩ = pure ([p1, p2, p3, p4].zip [u, v, w, z]) := by exact fun _ _ _ _ _ _ _ _ _ _ => rfl) : Binds K fd [p1, p2, p3, p4] [] :=
  F.binds fun kV doc pm an cdv ct us hl => match us, hl with | [u, v, w, z], _ => h kV doc pm an cdv ct u v w z
theorem bind5 {K : PySem.W.Frag} {x qual : Str} {st : Stmt} {f : Addr} {fd : FuncData} {p1 p2 p3 p4 p5 : Str} (F : Fun K x qual st f fd)
    (h : ∀ (kV doc pm : Value) (an : Option Addr) (cdv ct : Value) (u v w z y : Value), bindArgs (PySem.W.fnOf x qual (defArgs st) (defBody st) (defScope st) .none kV doc pm an cdv ct) ⟨[u, v, w, z, y], []⟩ = pure ([p1, p2, p3, p4, p5].zip [u, v, w, z, y]) := by exact fun _ _ _ _ _ _ _ _ _ _ _ => rfl) : Binds K fd [p1, p2, p3, p4, p5] [] :=
  F.binds fun kV doc pm an cdv ct us hl => match us, hl with | [u, v, w, z, y], _ => h kV doc pm an cdv ct u v w z y

/-! ### chances: fractions -/
def rFraction (ds : List PyData) (d : PyData) : Prop := ∃ (n : Int) (m : Nat), ds = [.int n, .int (m : Int)] ∧ 0 < m ∧ m < 2 ^ 4000 ∧ d = fr (mkRat n m)
def rPlus (ds : List PyData) (d : PyData) : Prop := ∃ p q : Rat, ds = [fr p, fr q] ∧ Sm p ∧ Sm q ∧ d = fr (p + q)
def rTimes (ds : List PyData) (d : PyData) : Prop := ∃ p q : Rat, ds = [fr p, fr q] ∧ Sm p ∧ Sm q ∧ d = fr (p * q)
def rLess (ds : List PyData) (d : PyData) : Prop := ∃ p q : Rat, ds = [fr p, fr q] ∧ Sm p ∧ Sm q ∧ d = .bool (decide (p < q))
def rIsFr (ds : List PyData) (d : PyData) : Prop := ∃ p : Rat, ds = [fr p] ∧ d = .bool true
theorem gcd_log {n : Int} {m : Nat} (h0 : 0 < m) (h1 : m < 2 ^ 4000) : CDivW n ((Nat.gcd n.natAbs (m : Int).natAbs : Nat) : Int) := by
  have e : (m : Int).natAbs = m := rfl
  rw [e]
  have g0 : 0 < Nat.gcd n.natAbs m := Nat.gcd_pos_of_pos_right _ h0
  have g1 : Nat.gcd n.natAbs m ≤ m := Nat.le_of_dvd h0 (Nat.gcd_dvd_right _ _)
  refine ⟨by omega, ?_⟩
  have e2 : ((Nat.gcd n.natAbs m : Nat) : Int).natAbs = Nat.gcd n.natAbs m := rfl
  rw [e2, Nat.log2_lt (by omega)]
  exact Nat.lt_of_le_of_lt g1 (Nat.lt_trans h1 (Nat.pow_lt_pow_right (by decide) (by decide)))
theorem Sm.mul2 {p q : Rat} (hp : Sm p) (hq : Sm q) : p.den * q.den < 2 ^ 4000 := by
  have h1 := hp.den
  have h2 := hq.den
  rw [big_eq] at h1 h2
  have h3 : p.den * q.den < 2 ^ 900 * 2 ^ 900 := Nat.mul_lt_mul'' h1 h2
  rw [← Nat.pow_add] at h3
  exact Nat.lt_of_lt_of_le h3 (Nat.pow_le_pow_right (by decide) (by decide))
theorem Sm.cnd {p q : Rat} (hp : Sm p) (hq : Sm q) : CMulW p.num (q.den : Int) := by
  have h1 := hp.log.2
  have h2 := hq.log.1
  show p.num.natAbs.log2 + q.den.log2 < 1000000
  omega
theorem Sm.cdd {p q : Rat} (hp : Sm p) (hq : Sm q) : CMulW (p.den : Int) (q.den : Int) := by
  have h1 := hp.log.1
  have h2 := hq.log.1
  show p.den.log2 + q.den.log2 < 1000000
  omega
theorem Sm.cnn {p q : Rat} (hp : Sm p) (hq : Sm q) : CMulW p.num q.num := by
  have h1 := hp.log.2
  have h2 := hq.log.2
  show p.num.natAbs.log2 + q.num.natAbs.log2 < 1000000
  omega
section
variable {P : Program} {w : World} {K : PySem.W.Frag} {mg : Str → Option Value} {base : Heap}
theorem df_fraction (T : Tx K mg) : DF P w K mg base "fraction" 1 rFraction := by
  obtain ⟨f, fd, hm, F⟩ := T.g_fraction
  refine df_mk hm F sc_fraction (bind2 F) (fun ds d h => ?_) fun cdv A outer s H E os ds d hr h => ?_
  · obtain ⟨n, m, rfl, _⟩ := h
    rfl
  · obtain ⟨n, m, rfl, h0, h1, rfl⟩ := h
    refine gb_ifNo (vt_eq (vt_eqI (ve_var 1 rfl) ve_int) (by simp; omega)) ?_
    refine gb_set 2 (ve_gcd T.gcd (ve_var 0 rfl) (ve_var 1 rfl)) ?_ sc_fraction.nd
    refine gb_ifNo (vt_eq (vt_lt (ve_var 1 rfl) ve_int) (by simp)) ?_
    refine gb_ret (ve_eq (ve_tup (va_cons (ve_div (ve_var 0 rfl) (ve_var 2 rfl) (gcd_log h0 h1)) (va_cons (ve_div (ve_var 1 rfl) (ve_var 2 rfl) (gcd_log h0 h1)) va_nil))) ?_)
    rw [fr_norm h0]
    rfl
theorem df_plus (T : Tx K mg) : DF P w K mg base "plus" 2 rPlus := by
  obtain ⟨f, fd, hm, F⟩ := T.g_plus
  refine df_mk hm F sc_plus (bind2 F) (fun ds d h => ?_) fun cdv A outer s H E os ds d hr h => ?_
  · obtain ⟨p, q, rfl, _⟩ := h
    rfl
  · obtain ⟨p, q, rfl, hp, hq, rfl⟩ := h
    have c1 : CMulW (p.num) (q.den : Int) := by
      show p.num.natAbs.log2 + q.den.log2 < 1000000
      have := hp.log; have := hq.log; omega
    refine gb_ret (ve_call (df_fraction T) hr (va_cons (ve_add (ve_mul (ve_fr0 (ve_var 0 rfl)) (ve_fr1 (ve_var 1 rfl)) (hp.cnd hq)) (ve_mul (ve_fr0 (ve_var 1 rfl)) (ve_fr1 (ve_var 0 rfl)) (hq.cnd hp))) (va_cons (ve_mul (ve_fr1 (ve_var 0 rfl)) (ve_fr1 (ve_var 1 rfl)) (hp.cdd hq)) va_nil)) ?_)
    refine ⟨_, p.den * q.den, rfl, Nat.mul_pos p.den_pos q.den_pos, hp.mul2 hq, ?_⟩
    rw [fr_add]
theorem df_times (T : Tx K mg) : DF P w K mg base "times" 2 rTimes := by
  obtain ⟨f, fd, hm, F⟩ := T.g_times
  refine df_mk hm F sc_times (bind2 F) (fun ds d h => ?_) fun cdv A outer s H E os ds d hr h => ?_
  · obtain ⟨p, q, rfl, _⟩ := h
    rfl
  · obtain ⟨p, q, rfl, hp, hq, rfl⟩ := h
    refine gb_ret (ve_call (df_fraction T) hr (va_cons (ve_mul (ve_fr0 (ve_var 0 rfl)) (ve_fr0 (ve_var 1 rfl)) (hp.cnn hq)) (va_cons (ve_mul (ve_fr1 (ve_var 0 rfl)) (ve_fr1 (ve_var 1 rfl)) (hp.cdd hq)) va_nil)) ?_)
    refine ⟨_, p.den * q.den, rfl, Nat.mul_pos p.den_pos q.den_pos, hp.mul2 hq, ?_⟩
    rw [fr_mul]
theorem df_is_less (T : Tx K mg) : DF P w K mg base "is_less" 1 rLess := by
  obtain ⟨f, fd, hm, F⟩ := T.g_is_less
  refine df_mk hm F sc_is_less (bind2 F) (fun ds d h => ?_) fun cdv A outer s H E os ds d hr h => ?_
  · obtain ⟨p, q, rfl, _⟩ := h
    rfl
  · obtain ⟨p, q, rfl, hp, hq, rfl⟩ := h
    refine gb_ret (ve_eq (ve_lt (ve_mul (ve_fr0 (ve_var 0 rfl)) (ve_fr1 (ve_var 1 rfl)) (hp.cnd hq)) (ve_mul (ve_fr0 (ve_var 1 rfl)) (ve_fr1 (ve_var 0 rfl)) (hq.cnd hp))) ?_)
    rw [fr_lt]
theorem df_is_fraction (T : Tx K mg) : DF P w K mg base "is_fraction" 1 rIsFr := by
  obtain ⟨f, fd, hm, F⟩ := T.g_is_fraction
  refine df_mk hm F sc_is_fraction (bind1 F) (fun ds d h => ?_) fun cdv A outer s H E os ds d hr h => ?_
  · obtain ⟨p, rfl, _⟩ := h
    rfl
  · obtain ⟨p, rfl, rfl⟩ := h
    refine gb_ret (ve_eq (ve_and (ve_ge (ve_fr1 (ve_var 0 rfl)) ve_int) fun _ => ve_one (ve_eqI (ve_gcd T.gcd (ve_fr0 (ve_var 0 rfl)) (ve_fr1 (ve_var 0 rfl))) ve_int)) ?_)
    have h1 := p.den_pos
    have h2 : Nat.gcd p.num.natAbs (p.den : Int).natAbs = 1 := p.reduced
    rw [h2]
    rw [decide_eq_true (by omega : (1 : Int) ≤ (p.den : Int))]
    rfl
end
end LC

namespace LC
open PySem PySem.Spec PyProof.Rows L2 DL

section
variable {X : Cx} {S : SS} {D : Ends}
/-- the end of a turn -/
theorem gb_thn {rest : List Stmt} {D' : Ends} (e : D'.nx = RUN X rest D) (h : GB X S rest D) : GB X S [] D' := gb_then h e
theorem gb_fin {ρ : List SD} (e : D.nx = SA X.K ⟨S.H0, S.os0, S.mu, ρ⟩) (hw : Weak S.rho ρ) : GB X S [] D := gb_nil fun σ H s => by rw [e]; exact s.weak hw
end
local macro_rules | `(tactic| walk_at "WK") => `(tactic| repeat (first | exact Weak.nil | refine Weak.same ?_ | refine Weak.drop ?_))
def rSum (ds : List PyData) (d : PyData) : Prop := ∃ (k : Nat) (xs : List Rat), k ≤ 45 ∧ ds = [.list (xs.map fr)] ∧ (∀ x ∈ xs, Pr k x) ∧ sumF id xs ≤ 1 ∧ d = fr (sumF id xs)
theorem take_mem {α : Type} {xs : List α} {k : Nat} {x : α} (h : xs[k]? = some x) : x ∈ xs := List.mem_of_getElem? h
section
variable {P : Program} {w : World} {K : PySem.W.Frag} {mg : Str → Option Value} {base : Heap}
theorem df_sum_all (T : Tx K mg) : DF P w K mg base "sum_all" 3 rSum := by
  obtain ⟨f, fd, hm, F⟩ := T.g_sum_all
  refine df_mk hm F sc_sum_all (bind1 F) (fun ds d h => ?_) fun cdv A outer s H E os ds d hr h => ?_
  · obtain ⟨k, xs, _, rfl, _⟩ := h
    rfl
  · obtain ⟨kk, xs, hk, rfl, hx, hs, rfl⟩ := h
    refine gb_set 1 (ve_none (K := K) T) ?_ sc_sum_all.nd
    refine gb_fold (.nm 2) xs fr (fun t x => t + x) 0 (fun _ => []) (fun t => [.dat (.list (xs.map fr)), .dat (fr t), .any]) (ve_var 0 rfl) (tg_nm sc_sum_all.nd) ⟨rfl, by walk_at "WK"⟩ (fun Hb hb k x hk2 => ⟨_, rfl, ?_⟩) ?_ rfl
    · rw [show (fun (t x : Rat) => t + x) = fun t x => t + id x from rfl, foldl_sum]
      have p1 := (Pr.zero (k := kk)).pre (f := id) hx (by rw [Rat.zero_add]; exact hs) k
      have p2 := hx x (take_mem hk2)
      refine gb_set 1 (ve_call (df_plus T) hr (va_cons (ve_var 1 rfl) (va_cons (ve_var 2 rfl) va_nil)) ⟨_, _, rfl, p1.sm hk, p2.sm hk, rfl⟩) ?_ sc_sum_all.nd
      exact gb_fin rfl (by walk_at "WK")
    · refine gb_ret (ve_eq (ve_var 1 rfl) ?_)
      rw [show (fun (t x : Rat) => t + x) = fun t x => t + id x from rfl, foldl_sum, Rat.zero_add]
end
/-! spreads -/
abbrev Spread := List (Int × Rat)
abbrev encI (x : Int × Rat) : PyData := .tuple [.int x.1, fr x.2]
abbrev encS (s : Spread) : PyData := .list (s.map encI)
structure SpreadOk (k : Nat) (s : Spread) : Prop where
  pr : ∀ x ∈ s, Pr k x.2 ∧ 0 < x.2
  asc : s.Pairwise fun x y => x.1 < y.1
  tot : sumF (·.2) s = 1
theorem SpreadOk.ne {k : Nat} {s : Spread} (h : SpreadOk k s) : s ≠ [] := fun e => by
  have := h.tot
  rw [e] at this
  exact absurd this (by decide)
def rChkSpread (ds : List PyData) (d : PyData) : Prop := ∃ (k : Nat) (s : Spread), k ≤ 45 ∧ ds = [encS s] ∧ SpreadOk k s ∧ s.length ≤ 1000 ∧ d = .none
theorem eqv_fr {p q : Rat} : PyData.eqv (fr p) (fr q) = decide (p = q) := by
  by_cases h : p = q
  · subst h
    rw [decide_eq_true rfl]
    simp [PyData.eqv, PyData.eqvAll]
  · rw [decide_eq_false h]
    have h2 : ¬ (p.num = q.num ∧ p.den = q.den) := fun z => h (Rat.ext z.1 z.2)
    simp [PyData.eqv, PyData.eqvAll]
    intro h3 h4
    exact h2 ⟨h3, by omega⟩
section
variable {P : Program} {w : World} {K : PySem.W.Frag} {mg : Str → Option Value} {base : Heap}
theorem df_check_spread (T : Tx K mg) : DF P w K mg base "check_spread" 4 rChkSpread := by
  obtain ⟨f, fd, hm, F⟩ := T.g_check_spread
  refine df_mk hm F sc_check_spread (bind1 F) (fun ds d h => ?_) fun cdv A outer s H E os ds d hr h => ?_
  · obtain ⟨k, sp, _, rfl, _⟩ := h
    rfl
  · obtain ⟨kk, sp, hk, rfl, hs, hl, rfl⟩ := h
    refine gb_fold (.two 1 2) sp encI (fun _ _ => ()) () (fun _ => []) (fun t => [.dat (encS sp), .any, .any, .any, .any]) (ve_var 0 rfl) (tg_two rfl sc_check_spread.nd) ⟨rfl, by walk_at "WK"⟩ (fun Hb hb k x hk2 => ⟨_, rfl, ?_⟩) ?_ rfl
    · refine gb_ifNo (vt_eq (vw_pt (vw_or (vt_not (vt_val (ve_call ((df_is_fraction T).up (by decide : 1 ≤ 3)) hr (va_cons (ve_var 2 rfl) va_nil) ⟨_, rfl, rfl⟩))) fun _ => vw_or1 (vt_le (ve_fr0 (ve_var 2 rfl)) ve_int))) ?_) ?_
      · have h1 := (hs.pr x (take_mem hk2)).2
        have h2 : ¬ x.2.num ≤ 0 := fun z => by
          have h3 : (0 : Int) ≤ x.2.num := Rat.num_nonneg.mpr (by grind)
          have h4 : x.2.num = 0 := by omega
          rw [Rat.num_eq_zero] at h4
          rw [h4] at h1
          exact absurd h1 (by decide)
        simp [h2]
      · exact gb_fin rfl (by walk_at "WK")
    · have hne := hs.ne
      have hlen : 1 ≤ sp.length := by
        cases sp with
        | nil => exact absurd rfl hne
        | cons x l => simp
      refine gb_ifNo (vt_eq (vt_val (ve_any (ns := ((List.range (sp.length - 1)).filter fun _ => true).map fun _ => false) rfl T.b_any (ve_eq (ve_lcR 3 (sp.length - 1) (fun _ => true) (fun _ => .bool false) T.b_range (ve_eq (ve_sub (ve_len T.b_len (ve_var 0 rfl)) ve_int) ?_) (blkOk_by (own := [("at", 3)]) rfl) (fun _ _ _ _ _ => tg_nm sc_check_spread.nd) ?_ (by omega) rfl sc_check_spread.nd (by decide)) ?_))) ?_) ?_
      · rw [List.length_map]
        congr 1
        omega
      · intro Hb Da acc k hst hk2
        refine ⟨fun _ _ _ _ _ => vts_nil, fun _ _ _ _ _ _ => ?_⟩
        have g1 : sp[k]? = some (sp[k]'(by omega)) := List.getElem?_eq_getElem (by omega)
        have g2 : sp[k + 1]? = some (sp[k + 1]'(by omega)) := List.getElem?_eq_getElem (by omega)
        have h3 := List.pairwise_iff_getElem.mp hs.asc k (k + 1) (by omega) (by omega) (by omega)
        refine ve_eq (ve_ge (ve_ixT (ve_ixL (ve_var 0 rfl) (ve_var 3 rfl) (d := encI (sp[k]'(by omega))) ?_) ve_int rfl) (ve_ixT (ve_ixL (ve_var 0 rfl) (ve_add (ve_var 3 rfl) ve_int) (d := encI (sp[k + 1]'(by omega))) ?_) ve_int rfl)) ?_
        · exact (atI_nat (by rw [List.getElem?_map, g1]; rfl))
        · exact (atI_nat (j := k + 1) (by rw [List.getElem?_map, g2]; rfl))
        · rw [decide_eq_false (by omega)]
      · rw [List.map_map]
        rfl
      · simp
      · refine gb_ifNo (vt_eq (vt_neD hr.units (ve_call (df_sum_all T) hr (va_cons (ve_lc (.two 4 2) sp encI (fun _ => true) (fun x => fr x.2) (ve_var 0 rfl) (blkOk_by (own := [("_", 4), ("chance", 2)]) rfl) (fun _ _ _ _ _ => tg_two rfl sc_check_spread.nd) ?_ (by omega) rfl sc_check_spread.nd (by decide)) va_nil) (d := fr 1) ?_) (ve_whole T) rfl rfl rfl rfl) ?_) ?_
        · intro Hb Da acc k x hst hk2
          exact ⟨_, rfl, fun _ _ _ _ _ => vts_nil, fun _ _ _ _ _ _ => ve_var 2 rfl⟩
        · refine ⟨kk, sp.map (·.2), hk, by rw [List.filter_eq_self.mpr (fun _ _ => rfl), List.map_map]; rfl, fun x hx => ?_, ?_, ?_⟩
          · obtain ⟨y, hy, rfl⟩ := List.mem_map.mp hx
            exact (hs.pr y hy).1
          · rw [sumF_map]; show sumF (·.2) sp ≤ 1; rw [hs.tot]; exact Rat.le_refl
          · rw [sumF_map]; show _ = fr (sumF (·.2) sp); rw [hs.tot]
        · rw [eqv_fr]; rfl
        · exact gb_end
end
end LC

namespace LC
open PySem PySem.Spec PyProof.Rows L2 DL
local macro_rules | `(tactic| walk_at "WK") => `(tactic| repeat (first | exact Weak.nil | refine Weak.same ?_ | refine Weak.drop ?_))

section
variable {X : Cx} {S : SS} {D : Ends}
theorem gb_finM {ρ : List SD} {mu : List (Addr × MO)} (e : D.nx = SA X.K ⟨S.H0, S.os0, mu, ρ⟩) (hm : S.mu = mu) (hw : Weak S.rho ρ) : GB X S [] D := by
  subst hm
  exact gb_fin e hw
end
/-! gathered -/
def ksI (t : List (Int × Rat)) : List Int := (t.map (·.1)).mergeSort fun a b => decide (a ≤ b)
def gatT (t : List (Int × Rat)) : Spread := (ksI t).map fun v => (v, (look t v).getD 0)
def gat (items : Spread) : Spread := gatT (gtab items)
theorem ksI_perm (t : List (Int × Rat)) : (ksI t).Perm (t.map (·.1)) := List.mergeSort_perm _ _
theorem ksI_sorted (t : List (Int × Rat)) : (ksI t).Pairwise (· ≤ ·) := (List.pairwise_mergeSort (le := fun a b : Int => decide (a ≤ b)) (fun a b c h1 h2 => by simp at *; omega) (fun a b => by simp; omega) _).imp fun {a b} h => by simpa using h
theorem gatT_perm {t : List (Int × Rat)} (nd : (t.map (·.1)).Nodup) : (gatT t).Perm t := by
  have h1 : (gatT t).Perm ((t.map (·.1)).map fun v => (v, (look t v).getD 0)) := (ksI_perm t).map _
  refine h1.trans ?_
  rw [List.map_map, List.map_congr_left (g := id) (fun x hx => ?_), List.map_id]
  show (x.1, (look t x.1).getD 0) = x
  rw [look_mem nd (b := x.2) hx]
  rfl
structure GatOk (k : Nat) (items : Spread) : Prop where
  pr : ∀ x ∈ gat items, Pr k x.2 ∧ 0 < x.2
  asc : (gat items).Pairwise fun x y => x.1 < y.1
  sum : ∀ g : Int → Rat, sumF (fun x => x.2 * g x.1) (gat items) = sumF (fun x => x.2 * g x.1) items
  keys : ∀ x ∈ gat items, ∃ y ∈ items, y.1 = x.1
  len : (gat items).length ≤ items.length
theorem gat_ok {k : Nat} {items : Spread} (hx : ∀ x ∈ items, Pr k x.2 ∧ 0 < x.2) (hs : sumF (·.2) items ≤ 1) : GatOk k items := by
  have G := gt_tab hx hs
  have p := gatT_perm G.nd
  refine ⟨fun x m => G.pr x (p.subset m), ?_, fun g => ?_, fun x m => ?_, ?_⟩
  · have h1 : ((gat items).map (·.1)) = ksI (gtab items) := by
      unfold gat gatT
      rw [List.map_map]
      exact List.map_id _
    have h2 : (ksI (gtab items)).Pairwise (· < ·) := by
      have a := ksI_sorted (gtab items)
      have b : (ksI (gtab items)).Nodup := (ksI_perm _).nodup_iff.mpr G.nd
      exact (a.and b).imp fun {x y} h => by have := h.1; have := h.2; omega
    rw [← h1] at h2
    exact List.pairwise_map.mp h2
  · exact (sumF_perm p).trans (G.sum g)
  · have h1 := (G.keys x.1).mp (List.mem_map.mpr ⟨x, p.subset m, rfl⟩)
    obtain ⟨y, hy, e⟩ := List.mem_map.mp h1
    exact ⟨y, hy, e⟩
  · exact p.length_eq ▸ G.len
theorem GatOk.tot {k : Nat} {items : Spread} (h : GatOk k items) : sumF (·.2) (gat items) = sumF (·.2) items := by
  have := h.sum fun _ => 1
  rw [sumF_congr (g := (·.2)) (fun x _ => by rw [Rat.mul_one]), sumF_congr (f := fun x : Int × Rat => x.2 * 1) (g := (·.2)) (fun x _ => by rw [Rat.mul_one])] at this
  exact this
theorem sum_take {α : Type} {f : α → Rat} {xs : List α} {k : Nat} {x : α} (h : xs[k]? = some x) (nn : ∀ y ∈ xs, 0 ≤ f y) (hs : sumF f xs ≤ 1) : sumF f (xs.take k) + f x ≤ 1 := by
  have h1 := sumF_take_le nn (k + 1)
  rw [List.take_add_one, h, sumF_append] at h1
  have h2 : sumF f (some x).toList = f x := by show f x + 0 = f x; rw [Rat.add_zero]
  rw [h2] at h1
  exact Rat.le_trans h1 hs
def rGath (ds : List PyData) (d : PyData) : Prop := ∃ (k : Nat) (items : Spread), k ≤ 45 ∧ ds = [encS items] ∧ (∀ x ∈ items, Pr k x.2 ∧ 0 < x.2) ∧ sumF (·.2) items ≤ 1 ∧ items.length < 64 ∧ d = encS (gat items)
section
variable {P : Program} {w : World} {K : PySem.W.Frag} {mg : Str → Option Value} {base : Heap}
theorem df_gathered (T : Tx K mg) : DF P w K mg base "gathered" 3 rGath := by
  obtain ⟨f, fd, hm, F⟩ := T.g_gathered
  refine df_mk hm F sc_gathered (bind1 F) (fun ds d h => ?_) fun cdv A outer s H E os ds d hr h => ?_
  · obtain ⟨k, sp, _, rfl, _⟩ := h
    rfl
  · obtain ⟨kk, items, hk, rfl, hx, hs, hl, rfl⟩ := h
    have nn : ∀ y ∈ items, 0 ≤ y.2 := fun y hy => (hx y hy).1.pos
    have G := gt_tab hx hs
    refine gb_newK 1 (fun p => ?_) sc_gathered.nd
    refine gb_fold (.two 2 3) items encI gst [] (fun t => [(p, .mK (t.map fun x => (x.1, fr x.2)))]) (fun t => [.dat (encS items), .val (.ref p), .any, .any]) (ve_var 0 rfl) (tg_two rfl sc_gathered.nd) ⟨rfl, by walk_at "WK"⟩ (fun Hb hb k x hk2 => ⟨_, rfl, ?_⟩) ?_ rfl
    · have hx1 : ∀ y ∈ items.take k, Pr kk y.2 ∧ 0 < y.2 := fun y hy => hx y ((List.take_sublist k items).subset hy)
      have hs1 := sum_take hk2 nn hs
      have G1 := gt_tab hx1 (Rat.le_trans (sumF_take_le nn k) hs)
      have hx2 := hx x (take_mem hk2)
      obtain ⟨_, p1, p2⟩ := gst_ok G1 hx2.1 hx2.2 hs1
      refine gb_dputK 1 0 (hu_of hr) rfl rfl (ve_var 2 rfl) (ve_call ((df_plus T).up (by decide : 2 ≤ 2)) hr (va_cons (ve_eq (ve_dgetK 1 0 (hu_of hr) rfl rfl (ve_var 2 rfl) (ve_none (K := K) T)) (look_mapD fr x.1 _)) (va_cons (ve_var 3 rfl) va_nil)) ⟨_, _, rfl, p1.sm hk, hx2.1.sm hk, rfl⟩) ?_ ?_
      · rw [List.length_map]
        have h1 := G1.len
        have h2 : (items.take k).length ≤ items.length := by rw [List.length_take]; exact Nat.min_le_right _ _
        have e1 : gtab (items.take k) = (items.take k).foldl gst [] := rfl
        rw [e1] at h1
        omega
      · refine gb_finM rfl ?_ (by walk_at "WK")
        show [(p, MO.mK (put _ _ _))] = [(p, MO.mK _)]
        rw [put_map]
        rfl
    · refine gb_ret (ve_eq (ve_lc (.nm 2) (ksI (gtab items)) .int (fun _ => true) (fun v => encI (v, (look (gtab items) v).getD 0)) (ve_eq (ve_sortedK 1 0 rfl T.b_sorted rfl rfl ?_) ?_) (blkOk_by (own := [("value", 2)]) rfl) (fun _ _ _ _ _ => tg_nm sc_gathered.nd) ?_ ?_ rfl sc_gathered.nd (by decide)) ?_)
      · rw [List.length_map]
        exact Nat.lt_of_le_of_lt G.len hl
      · rw [List.map_map]
        rfl
      · intro Hb Da acc k v hst hk2
        have hv : v ∈ (gtab items).map (·.1) := (ksI_perm _).subset (take_mem hk2)
        obtain ⟨y, hy, rfl⟩ := List.mem_map.mp hv
        have ly : look (gtab items) y.1 = some y.2 := look_mem G.nd hy
        have lk : look ((gtab items).map fun x => (x.1, fr x.2)) y.1 = some (fr y.2) := by rw [look_map, ly]; rfl
        refine ⟨_, rfl, fun _ _ _ _ _ => vts_one (vt_eq (vt_neD hr.units (ve_dixK 1 1 (hu_of hr) rfl rfl (ve_var 2 rfl) lk) (ve_none (K := K) T) rfl rfl rfl rfl) ?_), fun _ _ _ _ _ _ => ve_eq (ve_tup (va_cons (ve_var 2 rfl) (va_cons (ve_dixK 1 1 (hu_of hr) rfl rfl (ve_var 2 rfl) lk) va_nil))) ?_⟩
        · rw [eqv_fr]
          have := (G.pr y hy).2
          simp
          intro e
          rw [e] at this
          exact absurd this (by decide)
        · show _ = encI (y.1, (look (gtab items) y.1).getD 0)
          rw [ly]
          rfl
      · rw [(ksI_perm _).length_eq, List.length_map]
        have := G.len
        omega
      · rw [List.filter_eq_self.mpr (fun _ _ => rfl)]
        show PyData.list _ = PyData.list _
        unfold gat gatT
        rw [List.map_map]
        rfl
end
/-! sum_of, shifted -/
def conv (s1 s2 : Spread) : Spread := s1.flatMap fun x => s2.map fun y => (x.1 + y.1, x.2 * y.2)
structure Sub (k : Nat) (s : Spread) : Prop where
  pr : ∀ x ∈ s, Pr k x.2 ∧ 0 < x.2
  tot : sumF (·.2) s ≤ 1
theorem conv_sum (s1 s2 : Spread) (g : Int → Rat) : sumF (fun x => x.2 * g x.1) (conv s1 s2) = sumF (fun x => x.2 * sumF (fun y => y.2 * g (x.1 + y.1)) s2) s1 := by
  unfold conv
  rw [sumF_flatMap]
  refine sumF_congr fun x _ => ?_
  rw [sumF_map, ← sumF_mul]
  refine sumF_congr fun y _ => ?_
  show x.2 * y.2 * g (x.1 + y.1) = x.2 * (y.2 * g (x.1 + y.1))
  grind
theorem sum_one {α : Type} {f : α → Rat} (s : List α) : sumF (fun x => f x * 1) s = sumF f s := sumF_congr fun x _ => Rat.mul_one _
theorem conv_tot (s1 s2 : Spread) : sumF (·.2) (conv s1 s2) = sumF (·.2) s1 * sumF (·.2) s2 := by
  have h := conv_sum s1 s2 fun _ => 1
  rw [sum_one] at h
  rw [h]
  have e : ∀ x : Int × Rat, x.2 * sumF (fun y : Int × Rat => y.2 * 1) s2 = sumF (·.2) s2 * x.2 := fun x => by rw [sum_one]; grind
  rw [sumF_congr fun x _ => e x, sumF_mul]
  grind
theorem conv_len (s1 s2 : Spread) : (conv s1 s2).length = s1.length * s2.length := by
  unfold conv
  induction s1 with
  | nil => simp
  | cons z zs ih => rw [List.flatMap_cons, List.length_append, ih, List.length_map, List.length_cons, Nat.add_mul, Nat.one_mul, Nat.add_comm]
theorem mul_le_one {p q : Rat} (h1 : 0 ≤ p) (h2 : p ≤ 1) (h3 : q ≤ 1) : p * q ≤ 1 := by
  have h4 : p * q ≤ p * 1 := Rat.mul_le_mul_of_nonneg_left h3 h1
  grind
theorem Sub.nn {k : Nat} {s : Spread} (h : Sub k s) : 0 ≤ sumF (·.2) s := sumF_nonneg fun x m => (h.pr x m).1.pos
theorem conv_sub {j k : Nat} {s1 s2 : Spread} (h1 : Sub j s1) (h2 : Sub k s2) : Sub (j + k) (conv s1 s2) := by
  refine ⟨fun x m => ?_, ?_⟩
  · obtain ⟨y, hy, m⟩ := List.mem_flatMap.mp m
    obtain ⟨z, hz, rfl⟩ := List.mem_map.mp m
    exact ⟨(h1.pr y hy).1.mul (h2.pr z hz).1, Rat.mul_pos (h1.pr y hy).2 (h2.pr z hz).2⟩
  · rw [conv_tot]
    exact mul_le_one h1.nn h1.tot h2.tot
def rSumOf (ds : List PyData) (d : PyData) : Prop := ∃ (j k : Nat) (s1 s2 : Spread), j + k ≤ 45 ∧ ds = [encS s1, encS s2] ∧ Sub j s1 ∧ Sub k s2 ∧ s1.length * s2.length < 64 ∧ d = encS (gat (conv s1 s2))
def rShift (ds : List PyData) (d : PyData) : Prop := ∃ (s : Spread) (n : Int), ds = [encS s, .int n] ∧ s.length ≤ 1000 ∧ d = encS (s.map fun x => (x.1 + n, x.2))
section
variable {P : Program} {w : World} {K : PySem.W.Frag} {mg : Str → Option Value} {base : Heap}
theorem df_sum_of (T : Tx K mg) : DF P w K mg base "sum_of" 4 rSumOf := by
  obtain ⟨f, fd, hm, F⟩ := T.g_sum_of
  refine df_mk hm F sc_sum_of (bind2 F) (fun ds d h => ?_) fun cdv A outer s H E os ds d hr h => ?_
  · obtain ⟨j, k, s1, s2, _, rfl, _⟩ := h
    rfl
  · obtain ⟨j, k, s1, s2, hk, rfl, h1, h2, hl, rfl⟩ := h
    refine gb_ret (ve_call (df_gathered T) hr (va_cons (ve_lc2 [4, 5] (.two 2 3) (.two 4 5) s1 encI s2 encI (fun x y => encI (x.1 + y.1, x.2 * y.2)) (ve_var 0 rfl) (blkOk_by (own := [("a", 2), ("p", 3), ("b", 4), ("q", 5)]) rfl) (by decide) (fun _ _ _ _ _ => tg_two rfl sc_sum_of.nd) (fun _ _ _ _ _ => tg_two rfl sc_sum_of.nd) ?_ (by omega) rfl sc_sum_of.nd (by decide) (by decide)) va_nil) ?_)
    · intro Hb Da acc x hst hx
      refine ⟨_, rfl, fun _ _ _ _ _ => ve_var 1 rfl, fun acc' y hy => ⟨_, rfl, fun _ _ _ _ _ => ve_tup (va_cons (ve_add (ve_var 2 rfl) (ve_var 4 rfl)) (va_cons (ve_call ((df_times T).up (by decide : 2 ≤ 3)) hr (va_cons (ve_var 3 rfl) (va_cons (ve_var 5 rfl) va_nil)) ⟨_, _, rfl, ?_, ?_, rfl⟩) va_nil))⟩⟩
      · exact (h1.pr x hx).1.sm (by omega)
      · exact (h2.pr y hy).1.sm (by omega)
    · have hc := conv_sub h1 h2
      refine ⟨j + k, conv s1 s2, hk, ?_, hc.pr, hc.tot, by rw [conv_len]; exact hl, rfl⟩
      show _ = [PyData.list _]
      unfold conv
      rw [List.map_flatMap]
      congr 3
      funext x
      rw [List.map_map]
      rfl
theorem df_shifted (T : Tx K mg) : DF P w K mg base "shifted" 1 rShift := by
  obtain ⟨f, fd, hm, F⟩ := T.g_shifted
  refine df_mk hm F sc_shifted (bind2 F) (fun ds d h => ?_) fun cdv A outer s H E os ds d hr h => ?_
  · obtain ⟨sp, n, rfl, _⟩ := h
    rfl
  · obtain ⟨sp, n, rfl, hl, rfl⟩ := h
    refine gb_ret (ve_eq (ve_lc (.two 2 3) sp encI (fun _ => true) (fun x => encI (x.1 + n, x.2)) (ve_var 0 rfl) (blkOk_by (own := [("value", 2), ("chance", 3)]) rfl) (fun _ _ _ _ _ => tg_two rfl sc_shifted.nd) ?_ (by omega) rfl sc_shifted.nd (by decide)) ?_)
    · intro Hb Da acc k x hst hk2
      exact ⟨_, rfl, fun _ _ _ _ _ => vts_nil, fun _ _ _ _ _ _ => ve_tup (va_cons (ve_add (ve_var 2 rfl) (ve_var 1 rfl)) (va_cons (ve_var 3 rfl) va_nil))⟩
    · rw [List.filter_eq_self.mpr (fun _ _ => rfl)]
      show PyData.list _ = PyData.list _
      rw [List.map_map]
      rfl
end
end LC

namespace LC
open PySem PySem.Spec PyProof.Rows L2 DL
local macro_rules | `(tactic| walk_at "WK") => `(tactic| repeat (first | exact Weak.nil | refine Weak.same ?_ | refine Weak.drop ?_))

/-! ### houses -/
inductive Lay where
  | limit (n : Int) | share (q : Rat) | band (a b : Int)
abbrev encL : Lay → PyData
  | .limit n => .tuple [.str "limit", .int n]
  | .share q => .tuple [.str "share", fr q]
  | .band a b => .tuple [.str "band", .int a, .int b]
structure Wth where
  premium : Int
  lines : List Spread
  turns : Spread
abbrev Trt := Int × List Lay
structure Hse where
  ws : List Wth
  ts : List Trt
abbrev encW (w : Wth) : PyData := .tuple [.int w.premium, .list (w.lines.map encS), encS w.turns]
abbrev encT (t : Trt) : PyData := .tuple [.int t.1, .list (t.2.map encL)]
abbrev encH (h : Hse) : PyData := .tuple [.list (h.ws.map encW), .list (h.ts.map encT)]
def LayOk : Lay → Prop
  | .limit n => 0 ≤ n ∧ n ≤ 1000
  | .share q => Pr 1 q
  | .band a b => 0 ≤ a ∧ a ≤ b ∧ b ≤ 1000
structure TrtOk (t : Trt) : Prop where
  p0 : 0 ≤ t.1
  p1 : t.1 ≤ 1000
  len : t.2.length ≤ 4
  lay : ∀ l ∈ t.2, LayOk l
structure LineOk (s : Spread) : Prop where
  sp : SpreadOk 1 s
  len : s.length ≤ 3
  val : ∀ x ∈ s, 0 ≤ x.1 ∧ x.1 ≤ 1000
structure TurnsOk (n : Nat) (s : Spread) : Prop where
  sp : SpreadOk 1 s
  len : s.length ≤ 4
  val : ∀ x ∈ s, 0 ≤ x.1 ∧ x.1 < n
structure WthOk (n : Nat) (w : Wth) : Prop where
  p0 : 0 ≤ w.premium
  p1 : w.premium ≤ 30
  len : w.lines.length ≤ 3
  lines : ∀ s ∈ w.lines, LineOk s
  turns : TurnsOk n w.turns
structure HseOk (h : Hse) : Prop where
  w0 : 1 ≤ h.ws.length
  w1 : h.ws.length ≤ 4
  t0 : 1 ≤ h.ts.length
  t1 : h.ts.length ≤ 4
  ws : ∀ w ∈ h.ws, WthOk h.ws.length w
  ts : ∀ t ∈ h.ts, TrtOk t
def mnI (i j : Int) : Int := if j < i then j else i
def layF : Lay → Int → Int
  | .share q, x => -((-x * q.num) / (q.den : Int))
  | .limit n, x => mnI x n
  | .band a b, x => x - mnI x b + mnI x a
def rem (t : Trt) (x : Int) : Int := t.2.foldl (fun x l => layF l x) x
theorem layF_bd {l : Lay} (h : LayOk l) {x : Int} (hx : 0 ≤ x) : 0 ≤ layF l x ∧ layF l x ≤ x := by
  cases l with
  | limit n =>
    have h1 : 0 ≤ n := h.1
    show 0 ≤ mnI x n ∧ mnI x n ≤ x
    unfold mnI
    split <;> omega
  | share q =>
    have h1 : (0 : Int) ≤ q.num := Rat.num_nonneg.mpr h.pos
    have h2 := h.num_le
    have h3 : q.num ≤ (q.den : Int) := by omega
    have h4 : (0 : Int) < q.den := by have := q.den_pos; omega
    have e : -x * q.num = -(x * q.num) := Int.neg_mul _ _
    show 0 ≤ -((-x * q.num) / (q.den : Int)) ∧ -((-x * q.num) / (q.den : Int)) ≤ x
    have h5 : 0 ≤ x * q.num := Int.mul_nonneg hx h1
    have h6 : x * q.num ≤ x * (q.den : Int) := Int.mul_le_mul_of_nonneg_left h3 hx
    rw [e]
    constructor
    · have : -(x * q.num) / (q.den : Int) ≤ 0 := by
        have := Int.ediv_le_ediv h4 (show -(x * q.num) ≤ 0 by omega)
        simpa using this
      omega
    · have : -x ≤ -(x * q.num) / (q.den : Int) := by
        rw [Int.le_ediv_iff_mul_le h4, Int.neg_mul]
        omega
      omega
  | band a b =>
    obtain ⟨h1, h2, h3⟩ := h
    show 0 ≤ x - mnI x b + mnI x a ∧ x - mnI x b + mnI x a ≤ x
    unfold mnI
    split <;> split <;> omega
theorem rem_bd {t : Trt} (h : ∀ l ∈ t.2, LayOk l) {x : Int} (hx : 0 ≤ x) : 0 ≤ rem t x ∧ rem t x ≤ x := by
  have key : ∀ (ls : List Lay) (x : Int), (∀ l ∈ ls, LayOk l) → 0 ≤ x → 0 ≤ ls.foldl (fun x l => layF l x) x ∧ ls.foldl (fun x l => layF l x) x ≤ x := by
    intro ls
    induction ls with
    | nil => intro x _ hx; exact ⟨hx, Int.le_refl _⟩
    | cons l ls ih =>
      intro x h hx
      have h1 := layF_bd (h l List.mem_cons_self) hx
      have h2 := ih (layF l x) (fun m hm => h m (List.mem_cons_of_mem _ hm)) h1.1
      exact ⟨h2.1, Int.le_trans h2.2 h1.2⟩
  exact key t.2 x h hx
theorem fold_bd {ls : List Lay} (h : ∀ l ∈ ls, LayOk l) {x : Int} (hx : 0 ≤ x) (k : Nat) : 0 ≤ (ls.take k).foldl (fun x l => layF l x) x ∧ (ls.take k).foldl (fun x l => layF l x) x ≤ x :=
  rem_bd (t := (0, ls.take k)) (fun l m => h l ((List.take_sublist k ls).subset m)) hx

def rReq (ds : List PyData) (d : PyData) : Prop := ds = [.bool true] ∧ d = .none
def rChkDmg (ds : List PyData) (d : PyData) : Prop := ∃ s : Spread, ds = [encS s] ∧ s.length ≤ 30 ∧ (∀ x ∈ s, 0 ≤ x.1 ∧ x.1 ≤ 1000) ∧ d = .none
def rIsAm (ds : List PyData) (d : PyData) : Prop := ∃ n : Int, ds = [.int n] ∧ 0 ≤ n ∧ n ≤ 1000 ∧ d = .bool true
def rChkLay (ds : List PyData) (d : PyData) : Prop := ∃ l : Lay, ds = [encL l] ∧ LayOk l ∧ d = .none
def rChkTrt (ds : List PyData) (d : PyData) : Prop := ∃ t : Trt, ds = [encT t] ∧ TrtOk t ∧ d = .none
def rRemain (ds : List PyData) (d : PyData) : Prop := ∃ (t : Trt) (x : Int), ds = [encT t, .int x] ∧ TrtOk t ∧ 0 ≤ x ∧ x ≤ 100000 ∧ d = .int (rem t x)
def rAfter (ds : List PyData) (d : PyData) : Prop := ∃ (k : Nat) (t : Trt) (s : Spread), k ≤ 45 ∧ ds = [encT t, encS s] ∧ TrtOk t ∧ Sub k s ∧ s.length < 64 ∧ (∀ x ∈ s, 0 ≤ x.1 ∧ x.1 ≤ 100000) ∧ d = encS (gat (s.map fun x => (rem t x.1, x.2)))
section
variable {P : Program} {w : World} {K : PySem.W.Frag} {mg : Str → Option Value} {base : Heap}
theorem df_require (T : Tx K mg) : DF P w K mg base "require" 1 rReq := by
  obtain ⟨f, fd, hm, F⟩ := T.g_require
  refine df_mk hm F sc_require (bind1 F) (fun ds d h => by rw [h.1]; rfl) fun cdv A outer s H E os ds d hr h => ?_
  obtain ⟨rfl, rfl⟩ := h
  exact gb_ifNo (vt_eq (vt_not (vt_val (ve_var 0 rfl))) rfl) gb_end
theorem req {X : Cx} {S : SS} {D : Ends} {rest : List Stmt} {e : Expr} {p pos cp : Pos} {k : Nat} (F : DF X.prog X.w X.K X.mg X.base "require" k rReq) (hr : Room k X.A) (he : VE X S e (.bool true)) (h : GB X S rest D) (hg : Gl X "require" := by rfl)
    (hst : starEach [e] X.env = (false, eval e X.env) :: starEach [] X.env := by rfl) (hs : swapsWith (.Call (.Name "require" p) [e] [] cp) none pos.line X.env = pure false := by rfl) : GB X S (.Expr (.Call (.Name "require" p) [e] [] cp) pos :: rest) D :=
  gb_expr (ve_call F hr (va_cons he va_nil hst) ⟨rfl, rfl⟩ hg (by decide) hst rfl) h hs
theorem df_check_damage (T : Tx K mg) : DF P w K mg base "check_damage" 2 rChkDmg := by
  obtain ⟨f, fd, hm, F⟩ := T.g_check_damage
  refine df_mk hm F sc_check_damage (bind1 F) (fun ds d h => by obtain ⟨sp, rfl, _⟩ := h; rfl) fun cdv A outer s H E os ds d hr h => ?_
  obtain ⟨sp, rfl, hl, hv, rfl⟩ := h
  refine req (df_require T) hr (ve_eq (ve_and (ve_le (ve_len T.b_len (ve_var 0 rfl)) (ve_kint T.kMAX_VALUES)) fun _ => ve_one (ve_all (ns := sp.map fun _ => true) rfl T.b_all (ve_eq (ve_lc (.two 1 2) sp encI (fun _ => true) (fun _ => .bool true) (ve_var 0 rfl) (blkOk_by (own := [("value", 1), ("_", 2)]) rfl) (fun _ _ _ _ _ => tg_two rfl sc_check_damage.nd) ?_ (by omega) rfl sc_check_damage.nd (by decide)) ?_))) ?_) gb_end
  · intro Hb Da acc k x hst hk2
    refine ⟨_, rfl, fun _ _ _ _ _ => vts_nil, fun _ _ _ _ _ _ => ve_eq (ve_chainI (c := .Name _ _) op_le op_le ve_int (ve_var 1 rfl) fun _ => ve_kint T.kLARGEST) ?_⟩
    have := hv x (take_mem hk2)
    simp
    exact this
  · rw [List.filter_eq_self.mpr (fun _ _ => rfl), List.map_map]
    rfl
  · simp
    omega
theorem df_is_amount (T : Tx K mg) : DF P w K mg base "is_amount" 1 rIsAm := by
  obtain ⟨f, fd, hm, F⟩ := T.g_is_amount
  refine df_mk hm F sc_is_amount (bind1 F) (fun ds d h => by obtain ⟨n, rfl, _⟩ := h; rfl) fun cdv A outer s H E os ds d hr h => ?_
  obtain ⟨n, rfl, h0, h1, rfl⟩ := h
  refine gb_ret (ve_eq (ve_and (ve_isi (T := "int") (U := "int") (k := true) T.b_isinstance T.b_int (by decide +kernel) (ve_var 0 rfl) is_tyI (by decide +kernel)) fun _ => ve_one (ve_chainI op_le op_le ve_int (ve_var 0 rfl) fun _ => ve_kint T.kLARGEST)) ?_)
  simp
  omega
theorem df_check_layer (T : Tx K mg) : DF P w K mg base "check_layer" 2 rChkLay := by
  obtain ⟨f, fd, hm, F⟩ := T.g_check_layer
  refine df_mk hm F sc_check_layer (bind1 F) (fun ds d h => by obtain ⟨n, rfl, _⟩ := h; rfl) fun cdv A outer s H E os ds d hr h => ?_
  obtain ⟨l, rfl, hl, rfl⟩ := h
  have R := df_require (P := P) (w := w) (base := base) T
  cases l with
  | share q =>
    refine req R hr (ve_eq (ve_ge (ve_lenT T.b_len (ve_var 0 rfl)) ve_int) (by rfl)) ?_
    refine gb_set 1 (ve_ixT (ve_var 0 rfl) ve_int (d := .str "share") rfl) ?_ sc_check_layer.nd
    refine gb_if (vt_eq (k' := true) (vt_eqS (ve_var 1 rfl) ve_str) (by decide)) (fun _ => ?_) fun z => nomatch z
    refine req R hr (ve_eq (ve_and (ve_eqI (ve_lenT T.b_len (ve_var 0 rfl)) ve_int) fun _ => ve_and (ve_isi (T := "tuple") (U := "tuple") (k := true) T.b_isinstance T.b_tuple (by decide +kernel) (ve_ixT (ve_var 0 rfl) ve_int (d := fr q) rfl) is_tyT (by decide +kernel))
      fun _ => ve_one (ve_eqI (ve_lenT T.b_len (ve_ixT (ve_var 0 rfl) ve_int (d := fr q) rfl)) ve_int)) (by rfl)) ?_
    refine req R hr (ve_eq (ve_and (ve_call (df_is_fraction T) hr (va_cons (ve_ixT (ve_var 0 rfl) ve_int (d := fr q) rfl) va_nil) ⟨q, rfl, rfl⟩) fun _ => ve_one (ve_chainI op_le op_le ve_int (ve_fr0 (ve_ixT (ve_var 0 rfl) ve_int (d := fr q) rfl)) fun _ => ve_fr1 (ve_ixT (ve_var 0 rfl) ve_int (d := fr q) rfl))) ?_) (gb_thn rfl gb_end)
    have h1 : (0 : Int) ≤ q.num := Rat.num_nonneg.mpr hl.pos
    have h2 := hl.num_le
    simp [-Rat.num_nonneg]
    omega
  | limit n =>
    refine req R hr (ve_eq (ve_ge (ve_lenT T.b_len (ve_var 0 rfl)) ve_int) (by rfl)) ?_
    refine gb_set 1 (ve_ixT (ve_var 0 rfl) ve_int (d := .str "limit") rfl) ?_ sc_check_layer.nd
    refine gb_if (vt_eq (k' := false) (vt_eqS (ve_var 1 rfl) ve_str) (by decide)) (fun z => nomatch z) fun _ => ?_
    refine gb_if (vt_eq (k' := true) (vt_eqS (ve_var 1 rfl) ve_str) (by decide)) (fun _ => ?_) fun z => nomatch z
    exact req R hr (ve_eq (ve_and (ve_eqI (ve_lenT T.b_len (ve_var 0 rfl)) ve_int) fun _ => ve_one (ve_call (df_is_amount T) hr (va_cons (ve_ixT (ve_var 0 rfl) ve_int (d := .int n) rfl) va_nil) ⟨n, rfl, hl.1, hl.2, rfl⟩)) (by rfl)) (gb_thn rfl (gb_thn rfl gb_end))
  | band a b =>
    refine req R hr (ve_eq (ve_ge (ve_lenT T.b_len (ve_var 0 rfl)) ve_int) (by rfl)) ?_
    refine gb_set 1 (ve_ixT (ve_var 0 rfl) ve_int (d := .str "band") rfl) ?_ sc_check_layer.nd
    refine gb_if (vt_eq (k' := false) (vt_eqS (ve_var 1 rfl) ve_str) (by decide)) (fun z => nomatch z) fun _ => ?_
    refine gb_if (vt_eq (k' := false) (vt_eqS (ve_var 1 rfl) ve_str) (by decide)) (fun z => nomatch z) fun _ => ?_
    obtain ⟨h1, h2, h3⟩ := hl
    refine req R hr (ve_eq (ve_and (ve_eqS (ve_var 1 rfl) ve_str) fun _ => ve_and (ve_eqI (ve_lenT T.b_len (ve_var 0 rfl)) ve_int) fun _ => ve_and (ve_call (df_is_amount T) hr (va_cons (ve_ixT (ve_var 0 rfl) ve_int (d := .int a) rfl) va_nil) ⟨a, rfl, h1, by omega, rfl⟩)
      fun _ => ve_one (ve_call (df_is_amount T) hr (va_cons (ve_ixT (ve_var 0 rfl) ve_int (d := .int b) rfl) va_nil) ⟨b, rfl, by omega, h3, rfl⟩)) (by rfl)) ?_
    refine req R hr (ve_eq (ve_le (ve_ixT (ve_var 0 rfl) ve_int (d := .int a) rfl) (ve_ixT (ve_var 0 rfl) ve_int (d := .int b) rfl)) (by simp; exact h2)) (gb_thn rfl (gb_thn rfl gb_end))
theorem df_check_treaty (T : Tx K mg) : DF P w K mg base "check_treaty" 3 rChkTrt := by
  obtain ⟨f, fd, hm, F⟩ := T.g_check_treaty
  refine df_mk hm F sc_check_treaty (bind1 F) (fun ds d h => by obtain ⟨n, rfl, _⟩ := h; rfl) fun cdv A outer s H E os ds d hr h => ?_
  obtain ⟨t, rfl, ht, rfl⟩ := h
  refine gb_unpack (.two 1 2) (tg_two rfl sc_check_treaty.nd) (ve_var 0 rfl) rfl ?_
  refine req ((df_require T).up (by decide : 1 ≤ 2)) hr (ve_eq (ve_and (ve_chainI op_le op_le ve_int (ve_var 1 rfl) fun _ => ve_kint T.kLARGEST) fun _ => ve_one (ve_le (ve_len T.b_len (ve_var 2 rfl)) (ve_kint T.kMAX_LAYERS))) ?_) ?_
  · have h1 := ht.p0
    have h2 := ht.p1
    have h3 := ht.len
    simp
    omega
  · refine gb_fold (.nm 3) t.2 encL (fun _ _ => ()) () (fun _ => []) (fun _ => [.dat (encT t), .dat (.int t.1), .dat (.list (t.2.map encL)), .any]) (ve_var 2 rfl) (tg_nm sc_check_treaty.nd) ⟨rfl, by walk_at "WK"⟩ (fun Hb hb k x hk2 => ⟨_, rfl, ?_⟩) gb_end rfl
    exact gb_expr (ve_call (df_check_layer T) hr (va_cons (ve_var 3 rfl) va_nil) ⟨x, rfl, ht.lay x (take_mem hk2), rfl⟩) (gb_fin rfl (by walk_at "WK"))
theorem df_remaining (T : Tx K mg) : DF P w K mg base "remaining" 1 rRemain := by
  obtain ⟨f, fd, hm, F⟩ := T.g_remaining
  refine df_mk hm F sc_remaining (bind2 F) (fun ds d h => by obtain ⟨n, x, rfl, _⟩ := h; rfl) fun cdv A outer s H E os ds d hr h => ?_
  obtain ⟨t, x, rfl, ht, hx0, hx1, rfl⟩ := h
  refine gb_fold (.nm 2) t.2 encL (fun x l => layF l x) x (fun _ => []) (fun y => [.dat (encT t), .dat (.int y), .any, .any, .any]) (ve_ixT (ve_var 0 rfl) ve_int (d := .list (t.2.map encL)) rfl) (tg_nm sc_remaining.nd) ⟨rfl, by walk_at "WK"⟩ (fun Hb hb k l hk2 => ⟨_, rfl, ?_⟩) ?_ rfl
  · have hb1 := fold_bd ht.lay hx0 k
    have hl := ht.lay l (take_mem hk2)
    generalize (t.2.take k).foldl (fun x l => layF l x) x = y at hb1
    cases l with
    | share q =>
      have hs := hl.sm (by decide : 1 ≤ 45)
      refine gb_if (vt_eq (k' := true) (vt_eqS (ve_ixT (ve_var 2 rfl) ve_int (d := .str "share") rfl) ve_str) (by decide)) (fun _ => ?_) fun z => nomatch z
      refine gb_unpack (.two 3 4) (tg_two rfl sc_remaining.nd) (ve_ixT (ve_var 2 rfl) ve_int (d := fr q) rfl) rfl ?_
      refine gb_set 1 (ve_neg (ve_div (ve_mul (ve_neg (ve_var 1 rfl)) (ve_var 3 rfl) ?_) (ve_var 4 rfl) ?_)) ?_ sc_remaining.nd
      · have := hs.log.2
        have h3 : (-y).natAbs.log2 < 1000 := by
          rw [Int.natAbs_neg]
          by_cases e : y.natAbs = 0
          · rw [e]; decide
          · rw [Nat.log2_lt e]
            have h5 : y.natAbs < 2 ^ 20 := by omega
            exact Nat.lt_of_lt_of_le h5 (Nat.pow_le_pow_right (by decide) (by decide))
        show (-y).natAbs.log2 + q.num.natAbs.log2 < 1000000
        omega
      · have := hs.log.1
        have := q.den_pos
        exact ⟨by omega, by show q.den.log2 < 9000; omega⟩
      · exact gb_thn rfl (gb_fin rfl (by walk_at "WK"))
    | limit n =>
      refine gb_if (vt_eq (k' := false) (vt_eqS (ve_ixT (ve_var 2 rfl) ve_int (d := .str "limit") rfl) ve_str) (by decide)) (fun z => nomatch z) fun _ => ?_
      refine gb_if (vt_eq (k' := true) (vt_eqS (ve_ixT (ve_var 2 rfl) ve_int (d := .str "limit") rfl) ve_str) (by decide)) (fun _ => ?_) fun z => nomatch z
      refine gb_set 1 (ve_min2 rfl T.b_min (ve_var 1 rfl) (ve_ixT (ve_var 2 rfl) ve_int (d := .int n) rfl)) ?_ sc_remaining.nd
      exact gb_thn rfl (gb_thn rfl (gb_fin rfl (by walk_at "WK")))
    | band a b =>
      refine gb_if (vt_eq (k' := false) (vt_eqS (ve_ixT (ve_var 2 rfl) ve_int (d := .str "band") rfl) ve_str) (by decide)) (fun z => nomatch z) fun _ => ?_
      refine gb_if (vt_eq (k' := false) (vt_eqS (ve_ixT (ve_var 2 rfl) ve_int (d := .str "band") rfl) ve_str) (by decide)) (fun z => nomatch z) fun _ => ?_
      refine gb_set 1 (ve_add (ve_sub (ve_var 1 rfl) (ve_min2 rfl T.b_min (ve_var 1 rfl) (ve_ixT (ve_var 2 rfl) ve_int (d := .int b) rfl))) (ve_min2 rfl T.b_min (ve_var 1 rfl) (ve_ixT (ve_var 2 rfl) ve_int (d := .int a) rfl))) ?_ sc_remaining.nd
      exact gb_thn rfl (gb_thn rfl (gb_fin rfl (by walk_at "WK")))
  · exact gb_ret (ve_var 1 rfl)
theorem df_after_treaty (T : Tx K mg) : DF P w K mg base "after_treaty" 4 rAfter := by
  obtain ⟨f, fd, hm, F⟩ := T.g_after_treaty
  refine df_mk hm F sc_after_treaty (bind2 F) (fun ds d h => by obtain ⟨k, n, x, _, rfl, _⟩ := h; rfl) fun cdv A outer s H E os ds d hr h => ?_
  obtain ⟨k, t, sp, hk, rfl, ht, hs, hl, hv, rfl⟩ := h
  refine gb_ret (ve_call (df_gathered T) hr (va_cons (ve_lc (.two 2 3) sp encI (fun _ => true) (fun x => encI (rem t x.1, x.2)) (ve_var 1 rfl) (blkOk_by (own := [("amount", 2), ("chance", 3)]) rfl) (fun _ _ _ _ _ => tg_two rfl sc_after_treaty.nd) ?_ (by omega) rfl sc_after_treaty.nd (by decide)) va_nil) ?_)
  · intro Hb Da acc j x hst hk2
    have hx := hv x (take_mem hk2)
    exact ⟨_, rfl, fun _ _ _ _ _ => vts_nil, fun _ _ _ _ _ _ => ve_tup (va_cons (ve_call ((df_remaining T).up (by decide : 1 ≤ 3)) hr (va_cons (ve_var 0 rfl) (va_cons (ve_var 2 rfl) va_nil)) ⟨t, x.1, rfl, ht, hx.1, hx.2, rfl⟩) (va_cons (ve_var 3 rfl) va_nil))⟩
  · refine ⟨k, sp.map fun x => (rem t x.1, x.2), hk, ?_, fun x hx => ?_, ?_, by rw [List.length_map]; exact hl, rfl⟩
    · rw [List.filter_eq_self.mpr (fun _ _ => rfl)]
      show [PyData.list _] = [PyData.list _]
      rw [List.map_map]
      rfl
    · obtain ⟨y, hy, rfl⟩ := List.mem_map.mp hx
      exact hs.pr y hy
    · rw [sumF_map]
      exact hs.tot
end
end LC

namespace LC
open PySem PySem.Spec PyProof.Rows L2 DL
local macro_rules | `(tactic| walk_at "WK") => `(tactic| repeat (first | exact Weak.nil | refine Weak.same ?_ | refine Weak.drop ?_))

def rChkW (ds : List PyData) (d : PyData) : Prop := ∃ (w : Wth) (n : Nat), ds = [encW w, .int (n : Int)] ∧ WthOk n w ∧ d = .none
def rChkH (ds : List PyData) (d : PyData) : Prop := ∃ h : Hse, ds = [encH h] ∧ HseOk h ∧ d = .none
def rWAt (ds : List PyData) (d : PyData) : Prop := ∃ (h : Hse) (j : Nat) (w : Wth), ds = [encH h, .int (j : Int)] ∧ h.ws[j]? = some w ∧ d = encW w
def dmg (ls : List Spread) : Spread := ls.foldl (fun t l => gat (conv t l)) [(0, 1)]
def chgP (w : Wth) (t : Trt) : Spread := ((gat ((dmg w.lines).map fun x => (rem t x.1, x.2))).map fun x => (-x.1, x.2)).reverse.map fun x => (x.1 + (w.premium - t.1), x.2)
def chg (h : Hse) (j i : Nat) : Spread := match h.ws[j]?, h.ts[i]? with
  | some w, some t => chgP w t
  | _, _ => []
abbrev encCh (h : Hse) : PyData := .list ((List.range h.ws.length).map fun j => .list ((List.range h.ts.length).map fun i => encS (chg h j i)))
def rTotD (ds : List PyData) (d : PyData) : Prop := ∃ (h : Hse) (j : Nat) (w : Wth), ds = [encH h, .int (j : Int)] ∧ HseOk h ∧ h.ws[j]? = some w ∧ d = encS (dmg w.lines)
def rChgOf (ds : List PyData) (d : PyData) : Prop := ∃ (h : Hse) (j i : Nat), ds = [encH h, .int (j : Int), .int (i : Int)] ∧ HseOk h ∧ j < h.ws.length ∧ i < h.ts.length ∧ d = encS (chg h j i)
def rAllCh (ds : List PyData) (d : PyData) : Prop := ∃ h : Hse, ds = [encH h] ∧ HseOk h ∧ d = encCh h
/-! the damages of a weather -/
structure TD (k : Nat) (t : Spread) : Prop where
  pr : ∀ x ∈ t, Pr k x.2 ∧ 0 < x.2
  tot : sumF (·.2) t = 1
  len : t.length ≤ 3 ^ k
  val : ∀ x ∈ t, 0 ≤ x.1 ∧ x.1 ≤ 1000 * k
theorem TD.sub {k : Nat} {t : Spread} (h : TD k t) : Sub k t := ⟨h.pr, by rw [h.tot]; exact Rat.le_refl⟩
theorem SpreadOk.sub {k : Nat} {t : Spread} (h : SpreadOk k t) : Sub k t := ⟨h.pr, by rw [h.tot]; exact Rat.le_refl⟩
theorem td_zero : TD 0 [(0, 1)] := by
  refine ⟨fun x hx => ?_, ?_, by simp, fun x hx => ?_⟩
  · rw [List.mem_singleton.mp hx]; exact ⟨Pr.whole, by decide⟩
  · show (1 : Rat) + 0 = 1; rw [Rat.add_zero]
  · rw [List.mem_singleton.mp hx]; simp
theorem td_step {k : Nat} {t l : Spread} (h : TD k t) (hl : LineOk l) : TD (k + 1) (gat (conv t l)) := by
  have hs := conv_sub h.sub hl.sp.sub
  have G := gat_ok hs.pr hs.tot
  refine ⟨G.pr, ?_, ?_, fun x hx => ?_⟩
  · rw [G.tot, conv_tot, h.tot, hl.sp.tot, Rat.mul_one]
  · refine Nat.le_trans G.len ?_
    rw [conv_len, Nat.pow_succ]
    exact Nat.mul_le_mul h.len hl.len
  · obtain ⟨y, hy, e⟩ := G.keys x hx
    obtain ⟨a, ha, hy⟩ := List.mem_flatMap.mp hy
    obtain ⟨b, hb, rfl⟩ := List.mem_map.mp hy
    have h1 := h.val a ha
    have h2 := hl.val b hb
    have e : a.1 + b.1 = x.1 := e
    omega
theorem td_fold : ∀ (ls : List Spread) (k : Nat) (t : Spread), TD k t → (∀ l ∈ ls, LineOk l) → TD (k + ls.length) (ls.foldl (fun t l => gat (conv t l)) t)
  | [], _, _, h, _ => h
  | l :: ls, k, t, h, hl => by
    have h1 := td_fold ls (k + 1) _ (td_step h (hl l List.mem_cons_self)) fun m hm => hl m (List.mem_cons_of_mem _ hm)
    rw [List.length_cons, show k + (ls.length + 1) = k + 1 + ls.length by omega]
    exact h1
theorem td_dmg {ls : List Spread} (hl : ∀ l ∈ ls, LineOk l) : TD ls.length (dmg ls) := by
  have := td_fold ls 0 _ td_zero hl
  rw [Nat.zero_add] at this
  exact this
theorem TD.len27 {k : Nat} {t : Spread} (h : TD k t) (hk : k ≤ 3) : t.length ≤ 27 := by
  have h1 := h.len
  have h2 : 3 ^ k ≤ 3 ^ 3 := Nat.pow_le_pow_right (by decide) hk
  omega
section
variable {P : Program} {w : World} {K : PySem.W.Frag} {mg : Str → Option Value} {base : Heap}
theorem df_check_valid (T : Tx K mg) : DF P w K mg base "check_valid" 5 rChkSpread := by
  obtain ⟨f, fd, hm, F⟩ := T.g_check_valid
  refine df_mk hm F sc_check_valid (bind1 F) (fun ds d h => by obtain ⟨k, n, _, rfl, _⟩ := h; rfl) fun cdv A outer s H E os ds d hr h => ?_
  obtain ⟨k, sp, hk, rfl, hs, hl, rfl⟩ := h
  refine gb_try (gb_expr (ve_call (df_check_spread T) hr (va_cons (ve_var 0 rfl) va_nil) ⟨k, sp, hk, rfl, hs, hl, rfl⟩) ?_) gb_end
  exact gb_nil fun σ H s => s
theorem df_check_weather (T : Tx K mg) : DF P w K mg base "check_weather" 6 rChkW := by
  obtain ⟨f, fd, hm, F⟩ := T.g_check_weather
  refine df_mk hm F sc_check_weather (bind2 F) (fun ds d h => by obtain ⟨k, n, rfl, _⟩ := h; rfl) fun cdv A outer s H E os ds d hr h => ?_
  obtain ⟨wt, n, rfl, hw, rfl⟩ := h
  have R := (df_require (P := P) (w := w) (base := base) T).up (by decide : 1 ≤ 5)
  refine gb_unpack (.three 2 3 4) (tg_three rfl sc_check_weather.nd) (ve_var 0 rfl) rfl ?_
  refine req R hr (ve_eq (ve_and (ve_chainI op_le op_le ve_int (ve_var 2 rfl) fun _ => ve_kint T.kLARGEST) fun _ => ve_one (ve_le (ve_len T.b_len (ve_var 3 rfl)) (ve_kint T.kMAX_LINES))) ?_) ?_
  · have h1 := hw.p0
    have h2 := hw.p1
    have h3 := hw.len
    simp
    omega
  · refine gb_fold (.nm 5) wt.lines encS (fun _ _ => ()) () (fun _ => []) (fun _ => [.dat (encW wt), .dat (.int n), .dat (.int wt.premium), .dat (.list (wt.lines.map encS)), .dat (encS wt.turns), .any, .any, .any]) (ve_var 3 rfl) (tg_nm sc_check_weather.nd) ⟨rfl, by walk_at "WK"⟩ (fun Hb hb k x hk2 => ⟨_, rfl, ?_⟩) ?_ rfl
    · have hx := hw.lines x (take_mem hk2)
      refine gb_expr (ve_call (df_check_valid T) hr (va_cons (ve_var 5 rfl) va_nil) ⟨1, x, by decide, rfl, hx.sp, by have := hx.len; omega, rfl⟩) ?_
      refine gb_expr (ve_call ((df_check_damage T).up (by decide : 2 ≤ 5)) hr (va_cons (ve_var 5 rfl) va_nil) ⟨x, rfl, by have := hx.len; omega, hx.val, rfl⟩) ?_
      exact gb_fin rfl (by walk_at "WK")
    · have ht := hw.turns
      refine gb_expr (ve_call (df_check_valid T) hr (va_cons (ve_var 4 rfl) va_nil) ⟨1, wt.turns, by decide, rfl, ht.sp, by have := ht.len; omega, rfl⟩) ?_
      refine req R hr (ve_eq (ve_all (ns := wt.turns.map fun _ => true) rfl T.b_all (ve_eq (ve_lc (.two 6 7) wt.turns encI (fun _ => true) (fun _ => .bool true) (ve_var 4 rfl) (blkOk_by (own := [("value", 6), ("_", 7)]) rfl) (fun _ _ _ _ _ => tg_two rfl sc_check_weather.nd) ?_ (by have := ht.len; omega) rfl sc_check_weather.nd (by decide)) ?_)) ?_) gb_end
      · intro Hb Da acc k x hst hk2
        refine ⟨_, rfl, fun _ _ _ _ _ => vts_nil, fun _ _ _ _ _ _ => ve_eq (ve_chainI (c := .Name _ _) op_le op_lt ve_int (ve_var 6 rfl) fun _ => ve_var 1 rfl) ?_⟩
        have := ht.val x (take_mem hk2)
        simp
        exact this
      · rw [List.filter_eq_self.mpr (fun _ _ => rfl), List.map_map]
        rfl
      · simp
theorem df_check_house (T : Tx K mg) : DF P w K mg base "check_house" 7 rChkH := by
  obtain ⟨f, fd, hm, F⟩ := T.g_check_house
  refine df_mk hm F sc_check_house (bind1 F) (fun ds d h => by obtain ⟨k, rfl, _⟩ := h; rfl) fun cdv A outer s H E os ds d hr h => ?_
  obtain ⟨h, rfl, hh, rfl⟩ := h
  have R := (df_require (P := P) (w := w) (base := base) T).up (by decide : 1 ≤ 6)
  refine gb_unpack (.two 1 2) (tg_two rfl sc_check_house.nd) (ve_var 0 rfl) rfl ?_
  refine req R hr (ve_eq (ve_and (ve_chainI op_le op_le ve_int (ve_len T.b_len (ve_var 1 rfl)) fun _ => ve_kint T.kMAX_WEATHERS) fun _ => ve_one (ve_chainI op_le op_le ve_int (ve_len T.b_len (ve_var 2 rfl)) fun _ => ve_kint T.kMAX_TREATIES)) ?_) ?_
  · have h1 := hh.w0
    have h2 := hh.w1
    have h3 := hh.t0
    have h4 := hh.t1
    simp
    omega
  · refine gb_fold (.nm 3) h.ws encW (fun _ _ => ()) () (fun _ => []) (fun _ => [.dat (encH h), .dat (.list (h.ws.map encW)), .dat (.list (h.ts.map encT)), .any, .any]) (ve_var 1 rfl) (tg_nm sc_check_house.nd) ⟨rfl, by walk_at "WK"⟩ (fun Hb hb k x hk2 => ⟨_, rfl, ?_⟩) ?_ rfl
    · refine gb_expr (ve_call (df_check_weather T) hr (va_cons (ve_var 3 rfl) (va_cons (ve_len T.b_len (ve_var 1 rfl)) va_nil)) ⟨x, h.ws.length, by rw [List.length_map], hh.ws x (take_mem hk2), rfl⟩) ?_
      exact gb_fin rfl (by walk_at "WK")
    · refine gb_fold (.nm 4) h.ts encT (fun _ _ => ()) () (fun _ => []) (fun _ => [.dat (encH h), .dat (.list (h.ws.map encW)), .dat (.list (h.ts.map encT)), .any, .any]) (ve_var 2 rfl) (tg_nm sc_check_house.nd) ⟨rfl, by walk_at "WK"⟩ (fun Hb hb k x hk2 => ⟨_, rfl, ?_⟩) gb_end rfl
      refine gb_expr (ve_call ((df_check_treaty T).up (by decide : 3 ≤ 6)) hr (va_cons (ve_var 4 rfl) va_nil) ⟨x, rfl, hh.ts x (take_mem hk2), rfl⟩) ?_
      exact gb_fin rfl (by walk_at "WK")
theorem df_weather_at (T : Tx K mg) : DF P w K mg base "weather_at" 1 rWAt := by
  obtain ⟨f, fd, hm, F⟩ := T.g_weather_at
  refine df_mk hm F sc_weather_at (bind2 F) (fun ds d h => by obtain ⟨k, j, w, rfl, _⟩ := h; rfl) fun cdv A outer s H E os ds d hr h => ?_
  obtain ⟨h, j, wt, rfl, hj, rfl⟩ := h
  have hlt := (List.getElem?_eq_some_iff.mp hj).1
  refine gb_ifNo (vt_eq (vt_not (vt_chainI op_le op_lt ve_int (ve_var 1 rfl) fun _ => ve_len T.b_len (ve_ixT (ve_var 0 rfl) ve_int (d := .list (h.ws.map encW)) rfl))) ?_) ?_
  · simp
    omega
  · exact gb_ret (ve_ixL (ve_ixT (ve_var 0 rfl) ve_int (d := .list (h.ws.map encW)) rfl) (ve_var 1 rfl) (atI_nat (by rw [List.getElem?_map, hj]; rfl)))
theorem df_total_damage (T : Tx K mg) : DF P w K mg base "total_damage" 5 rTotD := by
  obtain ⟨f, fd, hm, F⟩ := T.g_total_damage
  refine df_mk hm F sc_total_damage (bind2 F) (fun ds d h => by obtain ⟨k, j, w, rfl, _⟩ := h; rfl) fun cdv A outer s H E os ds d hr h => ?_
  obtain ⟨h, j, wt, rfl, hh, hj, rfl⟩ := h
  have hw := hh.ws wt (take_mem hj)
  refine gb_set 2 (ve_lst (va_cons (ve_tup (va_cons ve_int (va_cons (ve_tup (va_cons ve_int (va_cons ve_int va_nil))) va_nil))) va_nil)) ?_ sc_total_damage.nd
  refine gb_fold (.nm 3) wt.lines encS (fun t l => gat (conv t l)) [(0, 1)] (fun _ => []) (fun t => [.dat (encH h), .dat (.int j), .dat (encS t), .any]) (ve_ixT (ve_call ((df_weather_at T).up (by decide : 1 ≤ 4)) hr (va_cons (ve_var 0 rfl) (va_cons (ve_var 1 rfl) va_nil)) ⟨h, j, wt, rfl, hj, rfl⟩) ve_int (d := .list (wt.lines.map encS)) rfl)
    (tg_nm sc_total_damage.nd) ⟨rfl, by walk_at "WK"⟩ (fun Hb hb k x hk2 => ⟨_, rfl, ?_⟩) ?_ rfl
  · have hx := hw.lines x (take_mem hk2)
    have hk3 := (List.getElem?_eq_some_iff.mp hk2).1
    have t1 := td_fold (wt.lines.take k) 0 _ td_zero fun l m => hw.lines l ((List.take_sublist k _).subset m)
    have hl := hw.len
    rw [Nat.zero_add, List.length_take, Nat.min_eq_left (by omega)] at t1
    refine gb_set 2 (ve_call (df_sum_of T) hr (va_cons (ve_var 2 rfl) (va_cons (ve_var 3 rfl) va_nil)) ⟨k, 1, _, x, by omega, rfl, t1.sub, hx.sp.sub, ?_, rfl⟩) ?_ sc_total_damage.nd
    · have h1 := t1.len27 (by omega)
      have h2 := hx.len
      have h3 := t1.len
      have h4 : 3 ^ k ≤ 3 ^ 2 := Nat.pow_le_pow_right (by decide) (by omega)
      exact Nat.lt_of_le_of_lt (Nat.mul_le_mul (Nat.le_trans h3 h4) h2) (by decide)
    · exact gb_fin rfl (by walk_at "WK")
  · exact gb_ret (ve_var 2 rfl)
theorem df_change_of (T : Tx K mg) : DF P w K mg base "change_of" 6 rChgOf := by
  obtain ⟨f, fd, hm, F⟩ := T.g_change_of
  refine df_mk hm F sc_change_of (bind3 F) (fun ds d h => by obtain ⟨k, j, w, rfl, _⟩ := h; rfl) fun cdv A outer s H E os ds d hr h => ?_
  obtain ⟨h, j, i, rfl, hh, hj, hi, rfl⟩ := h
  have ej : h.ws[j]? = some h.ws[j] := List.getElem?_eq_getElem hj
  have ei : h.ts[i]? = some h.ts[i] := List.getElem?_eq_getElem hi
  have ec : chg h j i = chgP h.ws[j] h.ts[i] := by unfold chg; rw [ej, ei]
  rw [ec]
  generalize h.ws[j] = wt at ej
  generalize h.ts[i] = tr at ei
  have hw := hh.ws wt (take_mem ej)
  have ht := hh.ts tr (take_mem ei)
  have td := td_dmg hw.lines
  have hl27 := td.len27 hw.len
  have gtr : ∀ {X : Cx} {S : SS} {pos p1 : Pos} {a b : Expr}, VE X S a (encH h) → VE X S b (.int (i : Int)) → PlainIx b → VE X S (.Subscript (.Subscript a (.Constant (.int 1) 0 p1) p1) b pos) (encT tr) ∨ True := fun _ _ _ => .inr trivial
  refine gb_unpack (.three 3 4 4) (tg_three rfl sc_change_of.nd) (ve_call ((df_weather_at T).up (by decide : 1 ≤ 5)) hr (va_cons (ve_var 0 rfl) (va_cons (ve_var 1 rfl) va_nil)) ⟨h, j, wt, rfl, ej, rfl⟩) rfl ?_
  refine gb_ifNo (vt_eq (vt_not (vt_chainI op_le op_lt ve_int (ve_var 2 rfl) fun _ => ve_len T.b_len (ve_ixT (ve_var 0 rfl) ve_int (d := .list (h.ts.map encT)) rfl))) (by simp; omega)) ?_
  have at1 : atI (h.ts.map encT) (i : Int) = some (encT tr) := atI_nat (by rw [List.getElem?_map, ei]; rfl)
  refine gb_unpack (.two 5 4) (tg_two rfl sc_change_of.nd) (ve_ixL (ve_ixT (ve_var 0 rfl) ve_int (d := .list (h.ts.map encT)) rfl) (ve_var 2 rfl) at1) rfl ?_
  have hsub : Sub wt.lines.length (dmg wt.lines) := td.sub
  refine gb_set 6 (ve_call ((df_after_treaty T).up (by decide : 4 ≤ 5)) hr (va_cons (ve_ixL (ve_ixT (ve_var 0 rfl) ve_int (d := .list (h.ts.map encT)) rfl) (ve_var 2 rfl) at1) (va_cons (ve_call (df_total_damage T) hr (va_cons (ve_var 0 rfl) (va_cons (ve_var 1 rfl) va_nil)) ⟨h, j, wt, rfl, hh, ej, rfl⟩) va_nil))
    ⟨wt.lines.length, tr, dmg wt.lines, by have := hw.len; omega, rfl, ht, hsub, by omega, fun x hx => by have := td.val x hx; have := hw.len; omega, rfl⟩) ?_ sc_change_of.nd
  have hsub2 : Sub wt.lines.length ((dmg wt.lines).map fun x => (rem tr x.1, x.2)) := ⟨fun x hx => by obtain ⟨y, hy, rfl⟩ := List.mem_map.mp hx; exact hsub.pr y hy, by rw [sumF_map]; exact hsub.tot⟩
  have G := gat_ok hsub2.pr hsub2.tot
  have hl2 : (gat ((dmg wt.lines).map fun x => (rem tr x.1, x.2))).length ≤ 27 := Nat.le_trans G.len (by rw [List.length_map]; exact hl27)
  refine gb_ret (ve_call ((df_shifted T).up (by decide : 1 ≤ 5)) hr (va_cons (ve_rev (ve_lc (.two 7 8) _ encI (fun _ => true) (fun x => encI (-x.1, x.2)) (ve_var 6 rfl) (blkOk_by (own := [("amount", 7), ("chance", 8)]) rfl) (fun _ _ _ _ _ => tg_two rfl sc_change_of.nd) ?_ (by omega) rfl sc_change_of.nd (by decide))) (va_cons (ve_sub (ve_var 3 rfl) (ve_var 5 rfl)) va_nil)) ?_)
  · intro Hb Da acc k x hst hk2
    exact ⟨_, rfl, fun _ _ _ _ _ => vts_nil, fun _ _ _ _ _ _ => ve_tup (va_cons (ve_neg (ve_var 7 rfl)) (va_cons (ve_var 8 rfl) va_nil))⟩
  · refine ⟨((gat ((dmg wt.lines).map fun x => (rem tr x.1, x.2))).map fun x => (-x.1, x.2)).reverse, wt.premium - tr.1, ?_, ?_, rfl⟩
    · rw [List.filter_eq_self.mpr (fun _ _ => rfl)]
      show [PyData.list _, _] = [PyData.list _, _]
      rw [List.map_reverse, List.map_map]
      rfl
    · rw [List.length_reverse, List.length_map]
      omega
theorem df_all_changes (T : Tx K mg) : DF P w K mg base "all_changes" 7 rAllCh := by
  obtain ⟨f, fd, hm, F⟩ := T.g_all_changes
  refine df_mk hm F sc_all_changes (bind1 F) (fun ds d h => by obtain ⟨k, rfl, _⟩ := h; rfl) fun cdv A outer s H E os ds d hr h => ?_
  obtain ⟨h, rfl, hh, rfl⟩ := h
  have h1 := hh.w1
  have h2 := hh.t1
  refine gb_set 1 (ve_rangeV T.b_range (ve_eq (ve_len T.b_len (ve_ixT (ve_var 0 rfl) ve_int (d := .list (h.ts.map encT)) rfl)) (d := .int (h.ts.length : Int)) (by rw [List.length_map]))) ?_ sc_all_changes.nd
  refine gb_ret (ve_eq (ve_lcR 2 h.ws.length (fun _ => true) (fun j => .list (((List.range h.ts.length).filter fun _ => true).map fun i => encS (chg h j i))) T.b_range (ve_eq (ve_len T.b_len (ve_ixT (ve_var 0 rfl) ve_int (d := .list (h.ws.map encW)) rfl)) (by rw [List.length_map])) (blkOk_by (own := [("weather", 2)]) rfl) (fun _ _ _ _ _ => tg_nm sc_all_changes.nd) ?_ (by omega) rfl sc_all_changes.nd (by decide)) ?_)
  · intro Hb Da acc j hst hj
    refine ⟨fun _ _ _ _ _ => vts_nil, fun _ _ _ _ _ _ => ?_⟩
    refine ve_lcV 3 h.ts.length (fun _ => true) (fun i => encS (chg h j i)) (ve_var 1 rfl) (blkOk_by (own := [("treaty", 3)]) rfl) (fun _ _ _ _ _ => tg_nm sc_all_changes.nd) ?_ (by omega) rfl sc_all_changes.nd (by decide)
    intro Hb Da acc i hst hi
    exact ⟨fun _ _ _ _ _ => vts_nil, fun _ _ _ _ _ _ => ve_call (df_change_of T) hr (va_cons (ve_var 0 rfl) (va_cons (ve_var 2 rfl) (va_cons (ve_var 3 rfl) va_nil))) ⟨h, j, i, rfl, hh, hj, hi, rfl⟩⟩
  · rw [List.filter_eq_self.mpr (fun _ _ => rfl), List.filter_eq_self.mpr (fun _ _ => rfl)]
end
end LC

namespace LC
open PySem PySem.Spec PyProof.Rows L2 DL

abbrev Stt := Int × Int
def tns (h : Hse) (j : Nat) : Spread := match h.ws[j]? with
  | some w => w.turns
  | none => []
structure StOk (h : Hse) (s : Stt) : Prop where
  r : 0 ≤ s.1
  w0 : 0 ≤ s.2
  w1 : s.2 < h.ws.length
theorem StOk.lt {h : Hse} {s : Stt} (o : StOk h s) : s.2.toNat < h.ws.length := by have := o.w0; have := o.w1; omega
theorem StOk.cast {h : Hse} {s : Stt} (o : StOk h s) : s.2 = (s.2.toNat : Int) := by have := o.w0; omega
theorem tns_ok {h : Hse} (hh : HseOk h) {j : Nat} (hj : j < h.ws.length) : TurnsOk h.ws.length (tns h j) := by
  unfold tns
  rw [List.getElem?_eq_getElem hj]
  exact (hh.ws _ (List.getElem_mem hj)).turns
structure ChgOk (c : Spread) : Prop where
  pr : ∀ x ∈ c, Pr 3 x.2 ∧ 0 < x.2
  tot : sumF (·.2) c = 1
  len : c.length ≤ 27
  val : ∀ x ∈ c, x.1 ≤ 30
/-- what a year's change is worth, before gathering -/
theorem chgP_sum {n : Nat} {w : Wth} {t : Trt} (hw : WthOk n w) (ht : TrtOk t) (g : Int → Rat) : sumF (fun x => x.2 * g x.1) (chgP w t) = sumF (fun x => x.2 * g (w.premium - t.1 - rem t x.1)) (dmg w.lines) := by
  have td := td_dmg hw.lines
  have hs : Sub w.lines.length ((dmg w.lines).map fun x => (rem t x.1, x.2)) := ⟨fun x hx => by obtain ⟨y, hy, rfl⟩ := List.mem_map.mp hx; exact td.pr y hy, by rw [sumF_map]; exact td.sub.tot⟩
  have G := gat_ok hs.pr hs.tot
  unfold chgP
  rw [sumF_map, sumF_perm (List.reverse_perm _), sumF_map]
  have h1 := G.sum fun v => g (-v + (w.premium - t.1))
  refine Eq.trans h1 ?_
  rw [sumF_map]
  refine sumF_congr fun x _ => ?_
  show x.2 * g (-rem t x.1 + (w.premium - t.1)) = x.2 * g (w.premium - t.1 - rem t x.1)
  congr 2
  omega
theorem chgP_ok {n : Nat} {w : Wth} {t : Trt} (hw : WthOk n w) (ht : TrtOk t) : ChgOk (chgP w t) := by
  have td := td_dmg hw.lines
  have hs : Sub w.lines.length ((dmg w.lines).map fun x => (rem t x.1, x.2)) := ⟨fun x hx => by obtain ⟨y, hy, rfl⟩ := List.mem_map.mp hx; exact td.pr y hy, by rw [sumF_map]; exact td.sub.tot⟩
  have G := gat_ok hs.pr hs.tot
  refine ⟨fun x hx => ?_, ?_, ?_, fun x hx => ?_⟩
  · obtain ⟨y, hy, rfl⟩ := List.mem_map.mp hx
    obtain ⟨z, hz, rfl⟩ := List.mem_map.mp (List.mem_reverse.mp hy)
    exact ⟨(G.pr z hz).1.up hw.len, (G.pr z hz).2⟩
  · have h1 := chgP_sum hw ht fun _ => 1
    rw [sum_one, sum_one, td.tot] at h1
    exact h1
  · unfold chgP
    rw [List.length_map, List.length_reverse, List.length_map]
    refine Nat.le_trans G.len ?_
    rw [List.length_map]
    exact td.len27 hw.len
  · obtain ⟨y, hy, rfl⟩ := List.mem_map.mp hx
    obtain ⟨z, hz, rfl⟩ := List.mem_map.mp (List.mem_reverse.mp hy)
    obtain ⟨u, hu, e⟩ := G.keys z hz
    obtain ⟨v, hv, rfl⟩ := List.mem_map.mp hu
    have h1 := (rem_bd ht.lay (td.val v hv).1).1
    have e : rem t v.1 = z.1 := e
    have h2 := hw.p1
    have h3 := ht.p0
    show -z.1 + (w.premium - t.1) ≤ 30
    omega
theorem chg_eq {h : Hse} {j i : Nat} (hj : j < h.ws.length) (hi : i < h.ts.length) : chg h j i = chgP h.ws[j] h.ts[i] := by
  unfold chg
  rw [List.getElem?_eq_getElem hj, List.getElem?_eq_getElem hi]
theorem chg_ok {h : Hse} (hh : HseOk h) {j i : Nat} (hj : j < h.ws.length) (hi : i < h.ts.length) : ChgOk (chg h j i) := by
  rw [chg_eq hj hi]
  exact chgP_ok (hh.ws _ (List.getElem_mem hj)) (hh.ts _ (List.getElem_mem hi))

/-! ### a year -/
def innr (h : Hse) (f : Stt → Rat) (r : Int) (j : Nat) : Rat := sumF (fun y => y.2 * f (r, y.1)) (tns h j)
def stp1 (h : Hse) (f : Stt → Rat) (s : Stt) (x : Int × Rat) : Rat := x.2 * (if s.1 + x.1 < 0 then 1 else innr h f (s.1 + x.1) s.2.toNat)
def stepV (h : Hse) (f : Stt → Rat) (s : Stt) (t : Nat) : Rat := sumF (stp1 h f s) (chg h s.2.toNat t)
/-- the states that a change leads to -/
theorem next_ok {h : Hse} (hh : HseOk h) {s : Stt} (hs : StOk h s) {r : Int} (hr : 0 ≤ r) {y : Int × Rat} (hy : y ∈ tns h s.2.toNat) : StOk h (r, y.1) := by
  have := (tns_ok hh hs.lt).val y hy
  exact ⟨hr, this.1, this.2⟩
theorem innr_pr {h : Hse} (hh : HseOk h) {k : Nat} {f : Stt → Rat} {r : Int} {j : Nat} (hj : j < h.ws.length) (hf : ∀ y ∈ tns h j, Pr k (f (r, y.1))) : (∀ y ∈ tns h j, Pr (k + 1) (y.2 * f (r, y.1))) ∧ innr h f r j ≤ 1 ∧ Pr (k + 1) (innr h f r j) := by
  have ht := tns_ok hh hj
  have h1 : ∀ y ∈ tns h j, Pr (k + 1) (y.2 * f (r, y.1)) := fun y hy => by
    have := (ht.sp.pr y hy).1.mul (hf y hy)
    rw [Nat.add_comm] at this
    exact this
  have h2 : innr h f r j ≤ 1 := by
    refine Rat.le_trans (sumF_le (g := (·.2)) fun y hy => ?_) (by rw [ht.sp.tot]; exact Rat.le_refl)
    have := Rat.mul_le_mul_of_nonneg_left (hf y hy).one (ht.sp.pr y hy).1.pos
    rw [Rat.mul_one] at this
    exact this
  exact ⟨h1, h2, Pr.sum h1 h2⟩
structure StepOk (k : Nat) (h : Hse) (f : Stt → Rat) (s : Stt) (t : Nat) : Prop where
  term : ∀ x ∈ chg h s.2.toNat t, Pr (k + 4) (stp1 h f s x)
  one : stepV h f s t ≤ 1
  pr : Pr (k + 4) (stepV h f s t)
theorem step_ok {h : Hse} (hh : HseOk h) {k : Nat} {f : Stt → Rat} {s : Stt} (hs : StOk h s) {t : Nat} (ht : t < h.ts.length) (hf : ∀ x ∈ chg h s.2.toNat t, 0 ≤ s.1 + x.1 → ∀ y ∈ tns h s.2.toNat, Pr k (f (s.1 + x.1, y.1))) : StepOk k h f s t := by
  have hc := chg_ok hh hs.lt ht
  have h0 : ∀ x ∈ chg h s.2.toNat t, Pr (k + 1) (if s.1 + x.1 < 0 then 1 else innr h f (s.1 + x.1) s.2.toNat) := fun x hx => by
    split
    · exact Pr.whole
    · exact (innr_pr hh hs.lt (hf x hx (by omega))).2.2
  have h1 : ∀ x ∈ chg h s.2.toNat t, Pr (k + 4) (stp1 h f s x) := fun x hx => by
    have := (hc.pr x hx).1.mul (h0 x hx)
    rw [show 3 + (k + 1) = k + 4 by omega] at this
    exact this
  have h2 : stepV h f s t ≤ 1 := by
    refine Rat.le_trans (sumF_le (g := (·.2)) fun x hx => ?_) (by rw [hc.tot]; exact Rat.le_refl)
    have := Rat.mul_le_mul_of_nonneg_left (h0 x hx).one (hc.pr x hx).1.pos
    rw [Rat.mul_one] at this
    exact this
  exact ⟨h1, h2, Pr.sum h1 h2⟩
theorem innr_congr {h : Hse} {f g : Stt → Rat} {r : Int} {j : Nat} (e : ∀ y ∈ tns h j, f (r, y.1) = g (r, y.1)) : innr h f r j = innr h g r j := sumF_congr fun y hy => by rw [e y hy]
theorem step_congr {h : Hse} {f g : Stt → Rat} {s : Stt} {t : Nat} (e : ∀ x ∈ chg h s.2.toNat t, 0 ≤ s.1 + x.1 → ∀ y ∈ tns h s.2.toNat, f (s.1 + x.1, y.1) = g (s.1 + x.1, y.1)) : stepV h f s t = stepV h g s t := by
  refine sumF_congr fun x hx => ?_
  unfold stp1
  split
  · rfl
  · rw [innr_congr (e x hx (by omega))]
/-! ### the choice -/
def pickS (f : Nat → Rat) (acc : Option (Rat × Nat)) (t : Nat) : Option (Rat × Nat) := match acc with
  | none => some (f t, t)
  | some (v, u) => if f t < v then some (f t, t) else some (v, u)
def pickL (f : Nat → Rat) (ts : List Nat) : Option (Rat × Nat) := ts.foldl (pickS f) none
theorem pick_congr {f g : Nat → Rat} {ts : List Nat} (e : ∀ t ∈ ts, f t = g t) : pickL f ts = pickL g ts := by
  unfold pickL
  have key : ∀ (ts : List Nat) acc, (∀ t ∈ ts, f t = g t) → ts.foldl (pickS f) acc = ts.foldl (pickS g) acc := by
    intro ts
    induction ts with
    | nil => intros; rfl
    | cons t ts ih =>
      intro acc e
      rw [List.foldl_cons, List.foldl_cons, ih _ fun u hu => e u (List.mem_cons_of_mem _ hu)]
      congr 1
      unfold pickS
      rw [e t List.mem_cons_self]
  exact key ts none e
/-- the pick is a value of one of them, and none is less -/
theorem pick_fold {f : Nat → Rat} : ∀ (ts : List Nat) (acc : Option (Rat × Nat)) (v : Rat) (u : Nat), ts.foldl (pickS f) acc = some (v, u) → (acc = some (v, u) ∨ (u ∈ ts ∧ v = f u)) ∧ (∀ t ∈ ts, v ≤ f t) ∧ ∀ w x, acc = some (w, x) → v ≤ w
  | [], acc, v, u, h => by
    refine ⟨.inl h, fun t ht => (by cases ht), fun w x e => ?_⟩
    have h : acc = some (v, u) := h
    rw [e] at h
    cases h
    exact Rat.le_refl
  | t :: ts, acc, v, u, h => by
    rw [List.foldl_cons] at h
    obtain ⟨h1, h2, h3⟩ := pick_fold ts _ v u h
    cases acc with
    | none =>
      have h4 := h3 (f t) t rfl
      refine ⟨?_, fun x hx => ?_, fun w x e => nomatch e⟩
      · rcases h1 with h1 | ⟨h1, h5⟩
        · have h1 : some (f t, t) = some (v, u) := h1
          cases h1
          exact .inr ⟨List.mem_cons_self, rfl⟩
        · exact .inr ⟨List.mem_cons_of_mem _ h1, h5⟩
      · rcases List.mem_cons.mp hx with rfl | hx
        · exact h4
        · exact h2 x hx
    | some a =>
      obtain ⟨w, z⟩ := a
      by_cases c : f t < w
      · have e : pickS f (some (w, z)) t = some (f t, t) := if_pos c
        rw [e] at h1 h3
        have h4 := h3 _ _ rfl
        refine ⟨?_, fun x hx => ?_, fun w' x' e' => ?_⟩
        · rcases h1 with h1 | ⟨h1, h5⟩
          · cases h1
            exact .inr ⟨List.mem_cons_self, rfl⟩
          · exact .inr ⟨List.mem_cons_of_mem _ h1, h5⟩
        · rcases List.mem_cons.mp hx with rfl | hx
          · exact h4
          · exact h2 x hx
        · cases e'
          grind
      · have e : pickS f (some (w, z)) t = some (w, z) := if_neg c
        rw [e] at h1 h3
        have h4 := h3 _ _ rfl
        refine ⟨?_, fun x hx => ?_, fun w' x' e' => ?_⟩
        · rcases h1 with h1 | ⟨h1, h5⟩
          · exact .inl h1
          · exact .inr ⟨List.mem_cons_of_mem _ h1, h5⟩
        · rcases List.mem_cons.mp hx with rfl | hx
          · grind
          · exact h2 x hx
        · cases e'
          exact h4
theorem pick_some {f : Nat → Rat} {ts : List Nat} (h : ts ≠ []) : ∃ v u, pickL f ts = some (v, u) := by
  have key : ∀ (ts : List Nat) (acc : Option (Rat × Nat)), (acc ≠ none ∨ ts ≠ []) → ∃ v u, ts.foldl (pickS f) acc = some (v, u) := by
    intro ts
    induction ts with
    | nil =>
      intro acc h
      rcases h with h | h
      · cases acc with
        | none => exact absurd rfl h
        | some a => exact ⟨a.1, a.2, rfl⟩
      · exact absurd rfl h
    | cons t ts ih =>
      intro acc _
      rw [List.foldl_cons]
      refine ih _ (.inl ?_)
      unfold pickS
      split
      · simp
      · split <;> simp
  exact key ts none (.inr h)
theorem pick_mem {f : Nat → Rat} {ts : List Nat} {v : Rat} {u : Nat} (h : pickL f ts = some (v, u)) : u ∈ ts ∧ v = f u ∧ ∀ t ∈ ts, v ≤ f t := by
  obtain ⟨h1, h2, _⟩ := pick_fold ts none v u h
  rcases h1 with h1 | h1
  · cases h1
  · exact ⟨h1.1, h1.2, h2⟩
/-! ### plans -/
abbrev Plan := List (List Nat)
abbrev encP (pl : Plan) : PyData := .list (pl.map fun row => .list (row.map fun (t : Nat) => PyData.int (t : Int)))
def encO : Option Plan → PyData
  | none => .none
  | some pl => encP pl
structure PlanOk (h : Hse) (pl : Plan) : Prop where
  len : pl.length = h.ws.length
  ne : ∀ row ∈ pl, row ≠ []
  lt : ∀ row ∈ pl, ∀ t ∈ row, t < h.ts.length
def OPlanOk (h : Hse) : Option Plan → Prop
  | none => True
  | some pl => PlanOk h pl
def choose (pl : Plan) (s : Stt) : Nat := let row := pl.getD s.2.toNat []; row.getD (mnI s.1 ((row.length : Int) - 1)).toNat 0
def trt (h : Hse) (o : Option Plan) (s : Stt) : List Nat := match o with
  | none => List.range h.ts.length
  | some pl => [choose pl s]
theorem choose_at {h : Hse} {pl : Plan} (hp : PlanOk h pl) {s : Stt} (hs : StOk h s) : ∃ row, pl[s.2.toNat]? = some row ∧ ∃ i : Nat, mnI s.1 ((row.length : Int) - 1) = (i : Int) ∧ row[i]? = some (choose pl s) ∧ choose pl s < h.ts.length := by
  have hl : s.2.toNat < pl.length := by rw [hp.len]; exact hs.lt
  have e1 : pl[s.2.toNat]? = some pl[s.2.toNat] := List.getElem?_eq_getElem hl
  have hm : pl[s.2.toNat] ∈ pl := List.getElem_mem hl
  refine ⟨_, e1, ?_⟩
  have hne := hp.ne _ hm
  have hlt := hp.lt _ hm
  have e2 : choose pl s = (pl[s.2.toNat]).getD (mnI s.1 (((pl[s.2.toNat]).length : Int) - 1)).toNat 0 := by
    have e0 : pl.getD s.2.toNat [] = pl[s.2.toNat] := by rw [List.getD_eq_getElem?_getD, e1]; rfl
    unfold choose
    rw [e0]
  rw [e2]
  generalize pl[s.2.toNat] = row at hne hlt
  have h1 : 0 < row.length := List.length_pos_iff.mpr hne
  have h2 := hs.r
  have h3 : 0 ≤ mnI s.1 ((row.length : Int) - 1) ∧ mnI s.1 ((row.length : Int) - 1) ≤ (row.length : Int) - 1 := by unfold mnI; split <;> omega
  have h4 : (mnI s.1 ((row.length : Int) - 1)).toNat < row.length := by omega
  refine ⟨(mnI s.1 ((row.length : Int) - 1)).toNat, by omega, ?_, ?_⟩
  · rw [List.getD_eq_getElem?_getD, List.getElem?_eq_getElem h4]
    rfl
  · rw [List.getD_eq_getElem?_getD, List.getElem?_eq_getElem h4]
    exact hlt _ (List.getElem_mem h4)
theorem trt_lt {h : Hse} {o : Option Plan} (ho : OPlanOk h o) {s : Stt} (hs : StOk h s) : ∀ t ∈ trt h o s, t < h.ts.length := by
  cases o with
  | none => intro t ht; exact List.mem_range.mp ht
  | some pl =>
    intro t ht
    rw [List.mem_singleton.mp ht]
    obtain ⟨_, _, _, _, _, h⟩ := choose_at ho hs
    exact h
theorem trt_ne {h : Hse} (hh : HseOk h) (o : Option Plan) (s : Stt) : trt h o s ≠ [] := by
  cases o with
  | none =>
    intro e
    have h1 : (List.range h.ts.length).length = 0 := congrArg List.length e
    rw [List.length_range] at h1
    have := hh.t0
    omega
  | some pl => simp [trt]
/-! ### the chance of ruin -/
def U (h : Hse) (o : Option Plan) : Nat → Stt → Rat
  | 0, _ => 0
  | n + 1, s => ((pickL (stepV h (U h o n) s) (trt h o s)).map (·.1)).getD 0
def Ar (h : Hse) (o : Option Plan) (n : Nat) (s : Stt) : Nat := ((pickL (stepV h (U h o n) s) (trt h o s)).map (·.2)).getD 0
theorem u_pick {h : Hse} (hh : HseOk h) (o : Option Plan) (n : Nat) (s : Stt) : pickL (stepV h (U h o n) s) (trt h o s) = some (U h o (n + 1) s, Ar h o n s) := by
  obtain ⟨v, u, e⟩ := pick_some (f := stepV h (U h o n) s) (trt_ne hh o s)
  show _ = some (((pickL (stepV h (U h o n) s) (trt h o s)).map (·.1)).getD 0, ((pickL (stepV h (U h o n) s) (trt h o s)).map (·.2)).getD 0)
  rw [e]
  rfl
theorem u_pr {h : Hse} (hh : HseOk h) {o : Option Plan} (ho : OPlanOk h o) : ∀ (n : Nat) {s : Stt}, StOk h s → Pr (4 * n) (U h o n s)
  | 0, _, _ => Pr.zero
  | n + 1, s, hs => by
    have e := u_pick hh o n s
    obtain ⟨h1, h2, _⟩ := pick_mem e
    rw [h2, show 4 * (n + 1) = 4 * n + 4 by omega]
    exact (step_ok hh hs (trt_lt ho hs _ h1) fun x hx hr y hy => u_pr hh ho n (next_ok hh hs hr hy)).pr
theorem u_step {h : Hse} (hh : HseOk h) {o : Option Plan} (ho : OPlanOk h o) (n : Nat) {s : Stt} (hs : StOk h s) {t : Nat} (ht : t < h.ts.length) : StepOk (4 * n) h (U h o n) s t := step_ok hh hs ht fun x hx hr y hy => u_pr hh ho n (next_ok hh hs hr hy)
end LC

namespace LC
open PySem PySem.Spec PyProof.Rows L2 DL

/-! ### sets of states -/
def addK (ks : List Stt) (k : Stt) : List Stt := if k ∈ ks then ks else ks ++ [k]
abbrev tr1 (k : Stt) : Stt × PyData := (k, .bool true)
abbrev encKs (ks : List Stt) : PyData := .dict (kvE (ks.map tr1))
theorem put_tr (ks : List Stt) (k : Stt) : put (ks.map tr1) k (.bool true) = (addK ks k).map tr1 := by
  have e : (ks.map tr1).map (·.1) = ks := by rw [List.map_map]; exact List.map_id _
  unfold addK
  by_cases h : k ∈ ks
  · rw [if_pos h, put_in (by rw [e]; exact h), List.map_map]
    refine List.map_congr_left fun x _ => ?_
    show (if x = k then (x, PyData.bool true) else (x, PyData.bool true)) = _
    split <;> rfl
  · rw [if_neg h, put_out (by rw [e]; exact h), List.map_append]
    rfl
structure Adds {α : Type} (step : List Stt → α → List Stt) (c : Nat) (m : α → Stt → Prop) : Prop where
  nd : ∀ ks x, ks.Nodup → (step ks x).Nodup
  mem : ∀ ks x k, k ∈ step ks x ↔ k ∈ ks ∨ m x k
  len : ∀ ks x, (step ks x).length ≤ ks.length + c
theorem adds_one : Adds addK 1 fun x k => k = x := by
  refine ⟨fun ks x nd => ?_, fun ks x k => ?_, fun ks x => ?_⟩
  · unfold addK
    split
    · exact nd
    · rename_i h
      exact List.nodup_append.mpr ⟨nd, by simp, fun y hy z hz e => by
        rw [List.mem_singleton.mp hz] at e
        exact h (e ▸ hy)⟩
  · unfold addK
    split
    · rename_i h
      constructor
      · exact .inl
      · rintro (h1 | rfl)
        · exact h1
        · exact h
    · rw [List.mem_append, List.mem_singleton]
  · unfold addK
    split
    · omega
    · rw [List.length_append, List.length_singleton]; omega
theorem adds_fold {α β : Type} {step : List Stt → α → List Stt} {c : Nat} {m : α → Stt → Prop} (A : Adds step c m) (ls : β → List α) (n : Nat) (hn : ∀ b, (ls b).length ≤ n) : Adds (fun ks b => (ls b).foldl step ks) (n * c) fun b k => ∃ x ∈ ls b, m x k := by
  have key : ∀ (xs : List α) (ks : List Stt), (ks.Nodup → (xs.foldl step ks).Nodup) ∧ (∀ k, k ∈ xs.foldl step ks ↔ k ∈ ks ∨ ∃ x ∈ xs, m x k) ∧ (xs.foldl step ks).length ≤ ks.length + xs.length * c := by
    intro xs
    induction xs with
    | nil => intro ks; exact ⟨fun h => h, fun k => by simp, by simp⟩
    | cons x xs ih =>
      intro ks
      obtain ⟨h1, h2, h3⟩ := ih (step ks x)
      refine ⟨fun h => h1 (A.nd ks x h), fun k => ?_, ?_⟩
      · rw [List.foldl_cons, h2, A.mem]
        constructor
        · rintro ((h | h) | ⟨y, hy, h⟩)
          · exact .inl h
          · exact .inr ⟨x, List.mem_cons_self, h⟩
          · exact .inr ⟨y, List.mem_cons_of_mem _ hy, h⟩
        · rintro (h | ⟨y, hy, h⟩)
          · exact .inl (.inl h)
          · rcases List.mem_cons.mp hy with rfl | hy
            · exact .inl (.inr h)
            · exact .inr ⟨y, hy, h⟩
      · have := A.len ks x
        rw [List.foldl_cons, List.length_cons, Nat.add_mul]
        omega
  refine ⟨fun ks b => (key _ ks).1, fun ks b => (key _ ks).2.1, fun ks b => Nat.le_trans (key _ ks).2.2 ?_⟩
  have := Nat.mul_le_mul_right c (hn b)
  omega
/-- .. for one list -/
theorem Adds.run {α : Type} {step : List Stt → α → List Stt} {c : Nat} {m : α → Stt → Prop} (A : Adds step c m) (xs : List α) (ks : List Stt) : (ks.Nodup → (xs.foldl step ks).Nodup) ∧ (∀ k, k ∈ xs.foldl step ks ↔ k ∈ ks ∨ ∃ x ∈ xs, m x k) ∧ (xs.foldl step ks).length ≤ ks.length + xs.length * c := by
  have B := adds_fold A (fun _ : Unit => xs) xs.length fun _ => Nat.le_refl _
  exact ⟨B.nd ks (), B.mem ks (), B.len ks ()⟩
def folC (h : Hse) (s : Stt) (ks : List Stt) (x : Int × Rat) : List Stt := if 0 ≤ s.1 + x.1 then (tns h s.2.toNat).foldl (fun ks y => addK ks (s.1 + x.1, y.1)) ks else ks
def folT (h : Hse) (s : Stt) (ks : List Stt) (t : Nat) : List Stt := (chg h s.2.toNat t).foldl (folC h s) ks
def fol (h : Hse) (o : Option Plan) (s : Stt) : List Stt := (trt h o s).foldl (folT h s) []
def nxt (h : Hse) (o : Option Plan) (ks : List Stt) : List Stt := ks.foldl (fun a s => (fol h o s).foldl addK a) []
def layr (h : Hse) (o : Option Plan) (s : Stt) : Nat → List Stt
  | 0 => [s]
  | n + 1 => nxt h o (layr h o s n)
theorem adds_y (r : Int) : Adds (fun ks (y : Int × Rat) => addK ks (r, y.1)) 1 fun y k => k = (r, y.1) := ⟨fun ks y => adds_one.nd ks _, fun ks y => adds_one.mem ks _, fun ks y => adds_one.len ks _⟩
theorem adds_c {h : Hse} (hh : HseOk h) {s : Stt} (hs : StOk h s) : Adds (folC h s) 4 fun x k => 0 ≤ s.1 + x.1 ∧ ∃ y ∈ tns h s.2.toNat, k = (s.1 + x.1, y.1) := by
  have hl := (tns_ok hh hs.lt).len
  refine ⟨fun ks x nd => ?_, fun ks x k => ?_, fun ks x => ?_⟩
  · unfold folC
    split
    · exact ((adds_y _).run _ ks).1 nd
    · exact nd
  · unfold folC
    split
    · rename_i h0
      rw [((adds_y _).run _ ks).2.1]
      simp [h0]
    · rename_i h0
      simp [h0]
  · unfold folC
    split
    · have := ((adds_y (s.1 + x.1)).run (tns h s.2.toNat) ks).2.2
      omega
    · omega
theorem adds_t {h : Hse} (hh : HseOk h) {s : Stt} (hs : StOk h s) {t : Nat} (ht : t < h.ts.length) (ks : List Stt) : (ks.Nodup → (folT h s ks t).Nodup) ∧ (∀ k, k ∈ folT h s ks t ↔ k ∈ ks ∨ ∃ x ∈ chg h s.2.toNat t, 0 ≤ s.1 + x.1 ∧ ∃ y ∈ tns h s.2.toNat, k = (s.1 + x.1, y.1)) ∧ (folT h s ks t).length ≤ ks.length + 108 := by
  have A := (adds_c hh hs).run (chg h s.2.toNat t) ks
  have hl := (chg_ok hh hs.lt ht).len
  exact ⟨A.1, A.2.1, Nat.le_trans A.2.2 (by omega)⟩
/-- the prefixes of the treaties' loop -/
theorem fol_pre {h : Hse} (hh : HseOk h) {s : Stt} (hs : StOk h s) : ∀ (ts : List Nat) (ks : List Stt), (∀ t ∈ ts, t < h.ts.length) → (ks.Nodup → (ts.foldl (folT h s) ks).Nodup) ∧ (∀ k, k ∈ ts.foldl (folT h s) ks ↔ k ∈ ks ∨ ∃ t ∈ ts, ∃ x ∈ chg h s.2.toNat t, 0 ≤ s.1 + x.1 ∧ ∃ y ∈ tns h s.2.toNat, k = (s.1 + x.1, y.1)) ∧ (ts.foldl (folT h s) ks).length ≤ ks.length + ts.length * 108
  | [], ks, _ => ⟨fun h => h, fun k => by simp, by simp⟩
  | t :: ts, ks, ht => by
    have A := adds_t hh hs (ht t List.mem_cons_self) ks
    obtain ⟨h1, h2, h3⟩ := fol_pre hh hs ts (folT h s ks t) fun u hu => ht u (List.mem_cons_of_mem _ hu)
    refine ⟨fun nd => h1 (A.1 nd), fun k => ?_, ?_⟩
    · rw [List.foldl_cons, h2, A.2.1]
      constructor
      · rintro ((h | h) | ⟨u, hu, h⟩)
        · exact .inl h
        · exact .inr ⟨t, List.mem_cons_self, h⟩
        · exact .inr ⟨u, List.mem_cons_of_mem _ hu, h⟩
      · rintro (h | ⟨u, hu, h⟩)
        · exact .inl (.inl h)
        · rcases List.mem_cons.mp hu with rfl | hu
          · exact .inl (.inr h)
          · exact .inr ⟨u, hu, h⟩
    · have := A.2.2
      rw [List.foldl_cons, List.length_cons, Nat.add_mul]
      omega
theorem trt_len {h : Hse} (hh : HseOk h) (o : Option Plan) (s : Stt) : (trt h o s).length ≤ 4 := by
  cases o with
  | none => show (List.range h.ts.length).length ≤ 4; rw [List.length_range]; exact hh.t1
  | some pl => show 1 ≤ 4; decide
structure FolOk (h : Hse) (o : Option Plan) (s : Stt) : Prop where
  nd : (fol h o s).Nodup
  mem : ∀ k, k ∈ fol h o s ↔ ∃ t ∈ trt h o s, ∃ x ∈ chg h s.2.toNat t, 0 ≤ s.1 + x.1 ∧ ∃ y ∈ tns h s.2.toNat, k = (s.1 + x.1, y.1)
  len : (fol h o s).length ≤ 432
  ok : ∀ k ∈ fol h o s, StOk h k ∧ k.1 ≤ s.1 + 30
theorem fol_ok {h : Hse} (hh : HseOk h) {o : Option Plan} (ho : OPlanOk h o) {s : Stt} (hs : StOk h s) : FolOk h o s := by
  obtain ⟨h1, h2, h3⟩ := fol_pre hh hs (trt h o s) [] (trt_lt ho hs)
  have hm : ∀ k, k ∈ fol h o s ↔ ∃ t ∈ trt h o s, ∃ x ∈ chg h s.2.toNat t, 0 ≤ s.1 + x.1 ∧ ∃ y ∈ tns h s.2.toNat, k = (s.1 + x.1, y.1) := fun k => by
    have := h2 k
    simp only [List.not_mem_nil, false_or] at this
    exact this
  have h4 := trt_len hh o s
  refine ⟨h1 List.nodup_nil, hm, ?_, fun k hk => ?_⟩
  · simp only [List.length_nil, Nat.zero_add] at h3
    unfold fol
    omega
  · obtain ⟨t, ht, x, hx, hr, y, hy, rfl⟩ := (hm k).mp hk
    have := (chg_ok hh hs.lt (trt_lt ho hs t ht)).val x hx
    exact ⟨next_ok hh hs hr hy, by show s.1 + x.1 ≤ s.1 + 30; omega⟩
theorem nodup_lt : ∀ (n : Nat) {l : List Nat}, l.Nodup → (∀ x ∈ l, x < n) → l.length ≤ n
  | 0, l, _, h => by
    cases l with
    | nil => simp
    | cons x l => exact absurd (h x List.mem_cons_self) (by omega)
  | n + 1, l, nd, h => by
    have h1 : (l.erase n).Nodup := nd.erase n
    have h2 : ∀ x ∈ l.erase n, x < n := fun x hx => by
      have h3 := h x (List.mem_of_mem_erase hx)
      have h4 : x ≠ n := fun e => by
        subst e
        exact (List.Nodup.not_mem_erase nd) hx
      omega
    have := nodup_lt n h1 h2
    have h5 : l.length ≤ (l.erase n).length + 1 := by
      rw [List.length_erase]
      split <;> omega
    omega
theorem box_len {h : Hse} (hh : HseOk h) {B : Nat} {ks : List Stt} (nd : ks.Nodup) (hb : ∀ k ∈ ks, StOk h k ∧ k.1 ≤ B) : ks.length ≤ (B + 1) * 4 := by
  have h1 : (ks.map fun k => k.1.toNat * 4 + k.2.toNat).Nodup := by
    refine List.pairwise_map.mpr (List.Pairwise.imp_of_mem (fun {x y} hx hy hne e => hne ?_) nd)
    have a := (hb x hx).1
    have b := (hb y hy).1
    have := hh.w1
    have a1 := a.r; have a2 := a.w0; have a3 := a.w1
    have b1 := b.r; have b2 := b.w0; have b3 := b.w1
    exact Prod.ext (by omega) (by omega)
  have h2 := nodup_lt ((B + 1) * 4) h1 fun x hx => by
    obtain ⟨k, hk, rfl⟩ := List.mem_map.mp hx
    have a := (hb k hk)
    have := hh.w1
    have a1 := a.1.r; have a2 := a.1.w0; have a3 := a.1.w1
    have := a.2
    omega
  rw [List.length_map] at h2
  exact h2
structure LayOk2 (h : Hse) (o : Option Plan) (B : Int) (ks : List Stt) : Prop where
  nd : ks.Nodup
  ok : ∀ k ∈ ks, StOk h k ∧ k.1 ≤ B
theorem nxt_pre {h : Hse} (hh : HseOk h) {o : Option Plan} (ho : OPlanOk h o) : ∀ (ks : List Stt) (a : List Stt), (∀ k ∈ ks, StOk h k) → (a.Nodup → (ks.foldl (fun a s => (fol h o s).foldl addK a) a).Nodup) ∧ (∀ k, k ∈ ks.foldl (fun a s => (fol h o s).foldl addK a) a ↔ k ∈ a ∨ ∃ s ∈ ks, k ∈ fol h o s) ∧ (ks.foldl (fun a s => (fol h o s).foldl addK a) a).length ≤ a.length + ks.length * 432
  | [], a, _ => ⟨fun h => h, fun k => by simp, by simp⟩
  | s :: ks, a, hk => by
    have A := adds_one.run (fol h o s) a
    obtain ⟨h1, h2, h3⟩ := nxt_pre hh ho ks ((fol h o s).foldl addK a) fun u hu => hk u (List.mem_cons_of_mem _ hu)
    refine ⟨fun nd => h1 (A.1 nd), fun k => ?_, ?_⟩
    · rw [List.foldl_cons, h2, A.2.1]
      constructor
      · rintro ((h | ⟨x, hx, rfl⟩) | ⟨u, hu, h⟩)
        · exact .inl h
        · exact .inr ⟨s, List.mem_cons_self, hx⟩
        · exact .inr ⟨u, List.mem_cons_of_mem _ hu, h⟩
      · rintro (h | ⟨u, hu, h⟩)
        · exact .inl (.inl h)
        · rcases List.mem_cons.mp hu with rfl | hu
          · exact .inl (.inr ⟨k, h, rfl⟩)
          · exact .inr ⟨u, hu, h⟩
    · have h4 := A.2.2
      have h5 := (fol_ok hh ho (hk s List.mem_cons_self)).len
      rw [List.foldl_cons, List.length_cons, Nat.add_mul]
      omega
theorem nxt_mem {h : Hse} (hh : HseOk h) {o : Option Plan} (ho : OPlanOk h o) {ks : List Stt} (hk : ∀ k ∈ ks, StOk h k) (k : Stt) : k ∈ nxt h o ks ↔ ∃ s ∈ ks, k ∈ fol h o s := by
  have := (nxt_pre hh ho ks [] hk).2.1 k
  simp only [List.not_mem_nil, false_or] at this
  exact this
theorem nxt_ok {h : Hse} (hh : HseOk h) {o : Option Plan} (ho : OPlanOk h o) {B : Int} {ks : List Stt} (hk : LayOk2 h o B ks) : LayOk2 h o (B + 30) (nxt h o ks) := by
  refine ⟨(nxt_pre hh ho ks [] fun k m => (hk.ok k m).1).1 List.nodup_nil, fun k m => ?_⟩
  obtain ⟨s, hs, m⟩ := (nxt_mem hh ho (fun k m => (hk.ok k m).1) k).mp m
  have h1 := hk.ok s hs
  have h2 := (fol_ok hh ho h1.1).ok k m
  exact ⟨h2.1, by omega⟩
theorem layr_ok {h : Hse} (hh : HseOk h) {o : Option Plan} (ho : OPlanOk h o) {s : Stt} (hs : StOk h s) : ∀ n : Nat, LayOk2 h o (s.1 + 30 * n) (layr h o s n)
  | 0 => ⟨by simp [layr], fun k m => by rw [List.mem_singleton.mp m]; exact ⟨hs, by omega⟩⟩
  | n + 1 => by
    have := nxt_ok hh ho (layr_ok hh ho hs n)
    rw [show s.1 + 30 * ((n + 1 : Nat) : Int) = s.1 + 30 * (n : Int) + 30 by omega]
    exact this
theorem layr_len {h : Hse} (hh : HseOk h) {o : Option Plan} (ho : OPlanOk h o) {s : Stt} (hs : StOk h s) (hr : s.1 ≤ 100) (n : Nat) : (layr h o s n).length ≤ (101 + 30 * n) * 4 := by
  have L := layr_ok hh ho hs n
  have := box_len hh (B := 100 + 30 * n) L.nd fun k m => by have := L.ok k m; exact ⟨this.1, by omega⟩
  omega
/-- successors of a layer's states lie in the next layer -/
theorem layr_next {h : Hse} (hh : HseOk h) {o : Option Plan} (ho : OPlanOk h o) {s : Stt} (hs : StOk h s) {n : Nat} {k : Stt} (hk : k ∈ layr h o s n) {t : Nat} (ht : t ∈ trt h o k) {x : Int × Rat} (hx : x ∈ chg h k.2.toNat t) (hr : 0 ≤ k.1 + x.1) {y : Int × Rat} (hy : y ∈ tns h k.2.toNat) : (k.1 + x.1, y.1) ∈ layr h o s (n + 1) := by
  have L := layr_ok hh ho hs n
  exact (nxt_mem hh ho (fun k m => (L.ok k m).1) _).mpr ⟨k, hk, ((fol_ok hh ho (L.ok k hk).1).mem _).mpr ⟨t, ht, x, hx, hr, y, hy, rfl⟩⟩
end LC

namespace LC
open PySem PySem.Spec PyProof.Rows L2 DL
local macro_rules | `(tactic| walk_at "WK") => `(tactic| repeat (first | exact Weak.nil | refine Weak.same ?_ | refine Weak.drop ?_))

structure SpanT (K : PySem.W.Frag) (mg : Str → Option Value) (C : Addr) : Prop where
  mg : mg "Span" = some (.ref C)
  cls : Cls K C
  n_house : NoAttr K C "house"
  n_plan : NoAttr K C "plan"
  n_changes : NoAttr K C "changes"
  n_count : NoAttr K C "count"
  init : ∃ f fd, L2.Mk K C f ∧ Fun K "__init__" "Span.__init__" s_Span_init f fd
  treaties : Md K C "treaties" "Span.treaties" s_Span_treaties
  following : Md K C "following" "Span.following" s_Span_following
  layers : Md K C "layers" "Span.layers" s_Span_layers
  with_treaty : Md K C "with_treaty" "Span.with_treaty" s_Span_with_treaty
  best : Md K C "best" "Span.best" s_Span_best
  ruin : Md K C "ruin" "Span.ruin" s_Span_ruin
theorem Tx.sp {K : PySem.W.Frag} {mg : Str → Option Value} (T : Tx K mg) : ∃ C, SpanT K mg C := by
  obtain ⟨C, h1, h2, h3, h4, h5, h6, h7, h8, h9, h10, h11, h12, h13⟩ := T.span
  exact ⟨C, h1, h2, h3, h4, h5, h6, h7, h8, h9, h10, h11, h12, h13⟩
def rChkSt (ds : List PyData) (d : PyData) : Prop := ∃ (h : Hse) (s : Stt) (n l : Nat), ds = [encH h, stD s, .int (n : Int), .int (l : Int)] ∧ StOk h s ∧ s.1 ≤ 100000 ∧ n ≤ 60 ∧ l ≤ n ∧ d = .none
def rChosen (ds : List PyData) (d : PyData) : Prop := ∃ (h : Hse) (pl : Plan) (s : Stt), ds = [encP pl, stD s] ∧ PlanOk h pl ∧ StOk h s ∧ d = .int (choose pl s : Nat)
section
variable {P : Program} {w : World} {K : PySem.W.Frag} {mg : Str → Option Value} {base : Heap}
theorem df_check_state (T : Tx K mg) : DF P w K mg base "check_state" 1 rChkSt := by
  obtain ⟨f, fd, hm, F⟩ := T.g_check_state
  refine df_mk hm F sc_check_state (bind4 F) (fun ds d h => by obtain ⟨k, s, n, l, rfl, _⟩ := h; rfl) fun cdv A outer s H E os ds d hr h => ?_
  obtain ⟨h, st, n, l, rfl, hs, h1, h2, h3, rfl⟩ := h
  refine gb_unpack (.two 4 5) (tg_two rfl sc_check_state.nd) (ve_var 1 rfl) rfl ?_
  have e1 := hs.r
  have e2 := hs.w0
  have e3 := hs.w1
  refine gb_ifNo (vt_eq (vw_pt (vw_or (vt_not (vt_chainI op_le op_le ve_int (ve_var 4 rfl) fun _ => ve_kint T.kMAX_RESERVE)) fun _ => vw_or (vt_not (vt_chainI op_le op_lt ve_int (ve_var 5 rfl) fun _ => ve_len T.b_len (ve_ixT (ve_var 0 rfl) ve_int (d := .list (h.ws.map encW)) rfl)))
    fun _ => vw_or1 (vt_not (vt_chainI op_le op_le (ve_var 3 rfl) (ve_var 2 rfl) fun _ => ve_kint T.kMAX_YEARS)))) ?_) gb_end
  simp
  omega
theorem df_chosen (T : Tx K mg) : DF P w K mg base "chosen" 1 rChosen := by
  obtain ⟨f, fd, hm, F⟩ := T.g_chosen
  refine df_mk hm F sc_chosen (bind2 F) (fun ds d h => by obtain ⟨h, pl, s, rfl, _⟩ := h; rfl) fun cdv A outer s H E os ds d hr h => ?_
  obtain ⟨h, pl, st, rfl, hp, hs, rfl⟩ := h
  obtain ⟨row, g1, i, g2, g3, _⟩ := choose_at hp hs
  refine gb_unpack (.two 2 3) (tg_two rfl sc_chosen.nd) (ve_var 1 rfl) rfl ?_
  refine gb_set 4 (ve_ixL (ve_var 0 rfl) (ve_var 3 rfl) (d := .list (row.map fun (t : Nat) => PyData.int (t : Int))) ?_) ?_ sc_chosen.nd
  · rw [hs.cast]
    exact atI_nat (by rw [List.getElem?_map, g1]; rfl)
  · refine gb_ret (ve_ixL (ve_var 4 rfl) (ve_eq (ve_min2 rfl T.b_min (ve_var 2 rfl) (ve_sub (ve_len T.b_len (ve_var 4 rfl)) ve_int)) (d := .int (i : Int)) ?_) (atI_nat (by rw [List.getElem?_map, g3]; rfl)))
    rw [List.length_map]
    show PyData.int (mnI st.1 ((row.length : Int) - 1)) = _
    rw [g2]
/-! ### Span -/
def rInit (hs pl ch : PyData) : Prop := ∃ (h : Hse) (o : Option Plan), hs = encH h ∧ pl = encO o ∧ ch = encCh h ∧ HseOk h
theorem di_span (T : Tx K mg) {C : Addr} (TC : SpanT K mg C) : DI P w K mg base "Span" C 8 rInit := by
  obtain ⟨f, fd, hm, F⟩ := TC.init
  refine ⟨f, fd, ["self", "house", "plan"], TC.mg, hm, bind3 F, F.ok sc_Span_init (fun vs H Q E ⟨os, p, dx, v1, v2, hs, pl, ch, e, _⟩ => by rw [e]; rfl) fun cdv A outer s H vs Q E hr h => ?_⟩
  obtain ⟨os, p, dx, v1, v2, hs, pl, ch, rfl, ho, hp, h0, i1, i2, ⟨h, o, rfl, rfl, rfl, hh⟩, q⟩ := h
  refine ⟨fun D σ H' => RUN (cxOf CX0 P w K mg base n_Span_init "Span.__init__" (defScope s_Span_init) f cdv A outer s H E).nox (defBody s_Span_init) D σ H', pss_run, ?_⟩
  have sa : SA K ⟨hid [p] H, os, [(p, .mI C dx [])], [.val (.ref p), .dat (encH h), .dat (encO o)]⟩ (L2.start n_Span_init [.ref p, v1, v2]) H := by
    refine ⟨⟨hid_ext, fun a m o ha => (hid_some ha).2⟩, fun a m => ?_, by simp, fun a m => ?_, fun x m => ?_, ?_⟩
    · obtain ⟨o, g1, g2⟩ := ho a m
      exact ⟨o, by show hid [p] H a = some o; rw [hid_out (by simp; exact fun e => hp (e ▸ m))]; exact g1, g2⟩
    · exact hid_in m
    · rw [List.mem_singleton.mp m]
      exact h0
    · exact .cons rfl (.cons ⟨v1, rfl, i1⟩ (.cons ⟨v2, rfl, i2⟩ .nil))
  have g : GB (cxOf CX0 P w K mg base n_Span_init "Span.__init__" (defScope s_Span_init) f cdv A outer s H E).nox ⟨hid [p] H, os, [(p, .mI C dx [])], [.val (.ref p), .dat (encH h), .dat (encO o)]⟩ (defBody s_Span_init) { nx := fun _ H' => Q .non H', rt := Q } := by
    refine gb_fldI 0 (vv_var 0 rfl) rfl TC.cls TC.n_house rfl (ve_var 1 rfl) fun Hb1 w1 st1 j1 => ?_
    refine gb_fldI 0 (vv_var 0 rfl) rfl TC.cls TC.n_plan rfl (ve_var 2 rfl) fun Hb2 w2 st2 j2 => ?_
    refine gb_fldI 0 (vv_var 0 rfl) rfl TC.cls TC.n_changes rfl (ve_call (df_all_changes T) hr (va_cons (ve_var 1 rfl) va_nil) ⟨h, rfl, hh, rfl⟩) fun Hb3 w3 st3 j3 => ?_
    refine gb_fldI 0 (vv_var 0 rfl) rfl TC.cls TC.n_count rfl ve_int fun Hb4 w4 st4 j4 => ?_
    refine gb_nil fun σ H' sa' => ?_
    have st : Stp os (hid [p] H) H' := (((st1.trans st2).trans st3).trans st4).trans sa'.stp
    have hp' := sa'.mok _ List.mem_cons_self
    have ex : Ext (hid os Hb4) (hid (p :: os) H') := sa'.base
    refine q H' st ⟨dx, w1, w2, w3, ?_, (j1.mono ((st2.ext.trans st3.ext).trans st4.ext).hid).mono ex, (j2.mono (st3.ext.trans st4.ext).hid).mono ex, (j3.mono st4.ext.hid).mono ex⟩
    have e4 : w4 = .int 0 := i_int j4
    subst e4
    exact hp'
  exact g _ _ sa
structure Par (h : Hse) (o : Option Plan) (hs pl ch : PyData) : Prop where
  e1 : hs = encH h
  e2 : pl = encO o
  e3 : ch = encCh h
  hh : HseOk h
  ho : OPlanOk h o
def rTreaties (_ : Int) (hs pl ch : PyData) (ds : List PyData) (d : PyData) : Prop := ∃ (h : Hse) (o : Option Plan) (s : Stt), Par h o hs pl ch ∧ ds = [stD s] ∧ StOk h s ∧ d = .list ((trt h o s).map fun (t : Nat) => PyData.int (t : Int))
def rFollowing (_ : Int) (hs pl ch : PyData) (ds : List PyData) (d : PyData) : Prop := ∃ (h : Hse) (o : Option Plan) (s : Stt), Par h o hs pl ch ∧ ds = [stD s] ∧ StOk h s ∧ d = encKs (fol h o s)
theorem dm_treaties (T : Tx K mg) {C : Addr} (TC : SpanT K mg C) : DM P w K mg base C "treaties" 2 rTreaties := by
  obtain ⟨f, fd, hm, F⟩ := TC.treaties
  refine dm_mk hm F sc_Span_treaties (bind2 F) (by decide +kernel) (fun n hs pl ch ds d h => by obtain ⟨h, o, s, _, rfl, _⟩ := h; rfl) fun cdv A outer s H E os p n hs pl ch ds d hr h hsp ho σ sa => ?_
  obtain ⟨h, o, st, ⟨rfl, rfl, rfl, hh, hop⟩, rfl, hs, rfl⟩ := h
  have hI : SpIn K C ⟨H, os, [], [.val (.ref p), .dat (stD st)]⟩ p (encH h) (encO o) (encCh h) := ⟨n, hsp⟩
  refine (?_ : GB _ ⟨H, os, [], [.val (.ref p), .dat (stD st)]⟩ _ _) σ H sa
  cases o with
  | none =>
    refine gb_if (vt_eq (k' := true) (vt_isN (ve_plan (vv_var 0 rfl) hI TC.cls TC.n_plan)) rfl) (fun _ => ?_) fun z => nomatch z
    refine gb_ret (ve_eq (ve_listRange rfl T.b_list T.b_range (ve_len T.b_len (ve_ixT (ve_house (vv_var 0 rfl) hI TC.cls TC.n_house) ve_int (d := .list (h.ts.map encT)) rfl)) ?_ (h1 := prg_1 (by rfl) T.b_range (ve_len T.b_len (ve_ixT (ve_house (vv_var 0 rfl) hI TC.cls TC.n_house) ve_int (d := .list (h.ts.map encT)) rfl)))) ?_)
    · rw [List.length_map]
      have := hh.t1
      omega
    · rw [List.length_map]
      rfl
  | some pl =>
    refine gb_ifNo (vt_eq (vt_isN (ve_plan (vv_var 0 rfl) hI TC.cls TC.n_plan)) rfl) ?_
    exact gb_ret (ve_lst (va_cons (ve_call (df_chosen T) hr (va_cons (ve_plan (vv_var 0 rfl) hI TC.cls TC.n_plan) (va_cons (ve_var 1 rfl) va_nil)) ⟨h, pl, st, rfl, hop, hs, rfl⟩) va_nil))
end
end LC

namespace LC
open PySem PySem.Spec PyProof.Rows L2 DL
local macro_rules | `(tactic| walk_at "WK") => `(tactic| repeat (first | exact Weak.nil | refine Weak.same ?_ | refine Weak.drop ?_))

section
variable {X : Cx} {S : SS} {e a b c o : Expr} {pos : Pos}
theorem tns_at {h : Hse} {s : Stt} (hs : StOk h s) : ∃ w, h.ws[s.2.toNat]? = some w ∧ tns h s.2.toNat = w.turns := by
  refine ⟨_, List.getElem?_eq_getElem hs.lt, ?_⟩
  unfold tns
  rw [List.getElem?_eq_getElem hs.lt]
/-- e[0][w][2] -/
theorem ve_turns {h : Hse} {s : Stt} {j1 j2 : Nat} {p1 p2 p3 p4 : Pos} (he : VE X S e (encH h)) (hw : VE X S a (.int s.2)) (hs : StOk h s) (hpl : PlainIx a := by exact fun _ _ => rfl) : VE X S (.Subscript (.Subscript (.Subscript e (.Constant (.int 0) j1 p1) p2) a p3) (.Constant (.int 2) j2 p4) pos) (encS (tns h s.2.toNat)) := by
  obtain ⟨w, h1, h2⟩ := tns_at hs
  rw [h2]
  refine ve_ixT (ve_ixL (ve_ixT he ve_int (d := .list (h.ws.map encW)) rfl) hw (d := encW w) ?_ hpl) ve_int rfl
  rw [hs.cast]
  exact atI_nat (by rw [List.getElem?_map, h1]; rfl)
/-- e[w][t] -/
theorem ve_chgs {h : Hse} {s : Stt} {t : Nat} {p1 : Pos} (he : VE X S e (encCh h)) (hw : VE X S a (.int s.2)) (ht : VE X S b (.int (t : Int))) (hs : StOk h s) (hl : t < h.ts.length) (hpl : PlainIx a := by exact fun _ _ => rfl) (hpl2 : PlainIx b := by exact fun _ _ => rfl) : VE X S (.Subscript (.Subscript e a p1) b pos) (encS (chg h s.2.toNat t)) := by
  refine ve_ixL (ve_ixL he hw (d := .list ((List.range h.ts.length).map fun i => encS (chg h s.2.toNat i))) ?_ hpl) ht ?_ hpl2
  · rw [hs.cast]
    exact atI_nat (by rw [List.getElem?_map, List.getElem?_range hs.lt, Int.toNat_natCast]; rfl)
  · exact atI_nat (by rw [List.getElem?_map, List.getElem?_range hl]; rfl)
end
def cntL (h : Hse) (o : Option Plan) (s : Stt) (k : Nat) : Int := (((List.range k).map fun i => (layr h o s (i + 1)).length).sum : Nat)
theorem cntL_succ (h : Hse) (o : Option Plan) (s : Stt) (k : Nat) : cntL h o s (k + 1) = cntL h o s k + ((layr h o s (k + 1)).length : Int) := by
  unfold cntL
  rw [List.range_succ, List.map_append, List.sum_append]
  simp
theorem cntL_le {h : Hse} (hh : HseOk h) {o : Option Plan} (ho : OPlanOk h o) {s : Stt} (hs : StOk h s) (hr : s.1 ≤ 100) : ∀ k : Nat, k ≤ 9 → cntL h o s k ≤ 1604 * k
  | 0, _ => by show ((0 : Nat) : Int) ≤ 1604 * ((0 : Nat) : Int); decide
  | k + 1, hk => by
    rw [cntL_succ]
    have h1 := cntL_le hh ho hs hr k (by omega)
    have h2 := layr_len hh ho hs hr (k + 1)
    omega
abbrev encLs (h : Hse) (o : Option Plan) (s : Stt) (n : Nat) : PyData := .list ((List.range n).map fun i => encKs (layr h o s i))
def rLayers (n : Int) (hs pl ch : PyData) (ds : List PyData) (d : PyData) : Prop := ∃ (h : Hse) (o : Option Plan) (s : Stt) (y : Nat), Par h o hs pl ch ∧ n = 0 ∧ ds = [stD s, .int (y : Int)] ∧ StOk h s ∧ s.1 ≤ 100 ∧ 1 ≤ y ∧ y ≤ 10 ∧ d = encLs h o s y
section
variable {P : Program} {w : World} {K : PySem.W.Frag} {mg : Str → Option Value} {base : Heap}
theorem dm_following (T : Tx K mg) {C : Addr} (TC : SpanT K mg C) : DM P w K mg base C "following" 3 rFollowing := by
  obtain ⟨f, fd, hm, F⟩ := TC.following
  refine dm_mk hm F sc_Span_following (bind2 F) (by decide +kernel) (fun n hs pl ch ds d h => by obtain ⟨h, o, s, _, rfl, _⟩ := h; rfl) fun cdv A outer s H E os p n hs pl ch ds d hr h hsp ho σ sa => ?_
  obtain ⟨h, o, st, par, rfl, hs, rfl⟩ := h
  obtain ⟨rfl, rfl, rfl, hh, hop⟩ := id par
  have hI : SpIn K C ⟨H, os, [], []⟩ p (encH h) (encO o) (encCh h) := ⟨n, hsp⟩
  have L := fol_pre hh hs
  have htl := trt_lt hop hs
  have htn := trt_len hh o st
  refine (?_ : GB _ ⟨H, os, [], .val (.ref p) :: ([stD st].map SD.dat ++ List.replicate 7 SD.any)⟩ _ _) σ H sa
  refine gb_unpack (.two 2 3) (tg_two rfl sc_Span_following.nd) (ve_var 1 rfl) rfl ?_
  refine gb_newT 4 (fun q => ?_) sc_Span_following.nd
  refine gb_fold (.nm 5) (trt h o st) (fun (t : Nat) => PyData.int (t : Int)) (folT h st) [] (fun ks => [(q, .mT (ks.map tr1))]) (fun _ => [.val (.ref p), .dat (stD st), .dat (.int st.1), .dat (.int st.2), .val (.ref q), .any, .any, .any, .any])
    (ve_meth (dm_treaties T TC) hr (vv_var 0 rfl) hI.same TC.cls (va_cons (ve_var 1 rfl) va_nil) fun n => ⟨h, o, st, par, rfl, hs, rfl⟩) (tg_nm sc_Span_following.nd) ⟨rfl, by walk_at "WK"⟩ (fun Hb hb k t hk => ⟨_, rfl, ?_⟩) ?_ rfl
  · have ht := htl t (take_mem hk)
    have hk2 := (List.getElem?_eq_some_iff.mp hk).1
    have b1 := (L ((trt h o st).take k) [] fun u hu => htl u ((List.take_sublist k _).subset hu)).2.2
    rw [List.length_take] at b1
    generalize ((trt h o st).take k).foldl (folT h st) [] = ks0 at b1
    have b2 : ks0.length ≤ 432 := by simp at b1; omega
    have hc := (chg_ok hh hs.lt ht).len
    refine gb_fold (.two 6 7) (chg h st.2.toNat t) encI (folC h st) ks0 (fun ks => [(q, .mT (ks.map tr1))]) (fun _ => [.val (.ref p), .dat (stD st), .dat (.int st.1), .dat (.int st.2), .val (.ref q), .dat (.int t), .any, .any, .any])
      (ve_chgs (ve_changes (vv_var 0 rfl) (hI.stp hb) TC.cls TC.n_changes) (ve_var 3 rfl) (ve_var 5 rfl) hs ht) (tg_two rfl sc_Span_following.nd) ⟨rfl, by walk_at "WK"⟩ (fun Hb2 hb2 j x hj => ⟨_, rfl, ?_⟩) ?_ rfl
    · have b3 := ((adds_c hh hs).run ((chg h st.2.toNat t).take j) ks0).2.2
      rw [List.length_take] at b3
      generalize ((chg h st.2.toNat t).take j).foldl (folC h st) ks0 = ks1 at b3
      have b4 : ks1.length ≤ 540 := by omega
      by_cases h0 : 0 ≤ st.1 + x.1
      · refine gb_if (vt_eq (vt_ge (ve_add (ve_var 2 rfl) (ve_var 6 rfl)) ve_int) (decide_eq_true h0)) (fun _ => ?_) fun z => nomatch z
        refine gb_fold (.two 8 7) (tns h st.2.toNat) encI (fun ks y => addK ks (st.1 + x.1, y.1)) ks1 (fun ks => [(q, .mT (ks.map tr1))]) (fun _ => [.val (.ref p), .dat (stD st), .dat (.int st.1), .dat (.int st.2), .val (.ref q), .dat (.int t), .dat (.int x.1), .any, .any])
          (ve_turns (ve_house (vv_var 0 rfl) (hI.stp (hb.trans hb2)) TC.cls TC.n_house) (ve_var 3 rfl) hs) (tg_two rfl sc_Span_following.nd) ⟨rfl, by walk_at "WK"⟩ (fun Hb3 hb3 i y hi => ⟨_, rfl, ?_⟩) ?_ rfl
        · have b5 := ((adds_y (st.1 + x.1)).run ((tns h st.2.toNat).take i) ks1).2.2
          have b6 := (tns_ok hh hs.lt).len
          rw [List.length_take] at b5
          generalize ((tns h st.2.toNat).take i).foldl (fun ks y => addK ks (st.1 + x.1, y.1)) ks1 = ks2 at b5
          refine gb_dputT 4 0 (hu_of hr) rfl rfl (ve_tupK (i := st.1 + x.1) (j := y.1) (va_cons (ve_add (ve_var 2 rfl) (ve_var 6 rfl)) (va_cons (ve_var 8 rfl) va_nil))) ve_bl ?_ ?_
          · rw [List.length_map]; omega
          · refine gb_finM rfl ?_ (by walk_at "WK")
            show [(q, MO.mT (put _ _ _))] = [(q, MO.mT _)]
            rw [put_tr]
        · refine gb_thn rfl (gb_finM rfl ?_ (by walk_at "WK"))
          show [(q, MO.mT _)] = [(q, MO.mT ((folC h st ks1 x).map tr1))]
          unfold folC
          rw [if_pos h0]
      · refine gb_ifNo (vt_eq (vt_ge (ve_add (ve_var 2 rfl) (ve_var 6 rfl)) ve_int) (decide_eq_false h0)) (gb_finM rfl ?_ (by walk_at "WK"))
        show [(q, MO.mT _)] = [(q, MO.mT ((folC h st ks1 x).map tr1))]
        unfold folC
        rw [if_neg h0]
    · exact gb_finM rfl rfl (by walk_at "WK")
  · exact gb_frz 4 0 rfl rfl rfl (gb_ret (ve_var 4 rfl))
theorem dx_layers (T : Tx K mg) {C : Addr} (TC : SpanT K mg C) : DX P w K mg base C "layers" 4 rLayers := by
  obtain ⟨f, fd, hm, F⟩ := TC.layers
  refine dx_mk hm F sc_Span_layers (bind3 F) (by decide +kernel) (fun n hs pl ch ds d h => by obtain ⟨h, o, s, y, _, _, rfl, _⟩ := h; rfl) fun cdv A outer s H E os p n hs pl ch ds d hr h hsp hpo ho σ sa => ?_
  obtain ⟨h, o, st, y, par, rfl, rfl, hs, hr100, hy1, hy10, rfl⟩ := h
  obtain ⟨rfl, rfl, rfl, hh, hop⟩ := id par
  refine (?_ : GB _ ⟨H, p :: os, [], .val (.ref p) :: ([stD st, .int y].map SD.dat ++ List.replicate 5 SD.any)⟩ _ _) σ H sa
  refine gb_newLs 3 (va_cons (ve_disp1 hr.units0 (fun q => ve_var 1 rfl) (fun q => ve_bl)) va_nil) (fun q => ?_) sc_Span_layers.nd
  refine gb_rangeH ((y : Int) - 1) 4 (fun k (g : Hp × Nat) => g.2 = k ∧ Stp os H g.1 ∧ SpanAt K C g.1 (p :: os) p (cntL h o st k) (encH h) (encO o) (encCh h)) (·.1) (fun g => [(q, .ml ((List.range (g.2 + 1)).map fun i => encKs (layr h o st i)))])
    (fun _ => [.val (.ref p), .dat (stD st), .dat (.int y), .val (.ref q), .any, .any, .any, .any]) T.b_range ⟨by omega, by omega⟩ (ve_sub (ve_var 2 rfl) ve_int) (tg_nm sc_Span_layers.nd) ⟨(H, 0), ⟨rfl, Stp.refl H, hsp⟩, rfl, rfl, by walk_at "WK"⟩ (fun k g hk hg => ?_) (fun g hg => ?_) rfl
  · obtain ⟨Hb, k'⟩ := g
    obtain ⟨e, hst, hspb⟩ := hg
    have e : k' = k := e
    subst e
    have hk9 : k' < 9 := by omega
    have hLk := layr_ok hh hop hs k'
    have hLl := layr_len hh hop hs hr100 k'
    have hI : SpIn K C ⟨Hb, p :: os, [], []⟩ p (encH h) (encO o) (encCh h) := ⟨_, hspb⟩
    refine gb_newT 5 (fun a => ?_) sc_Span_layers.nd
    refine gb_forD 6 (fun j (ks : List Stt) => ks = ((layr h o st k').take j).foldl (fun a s => (fol h o s).foldl addK a) []) (fun ks => [(a, .mT (ks.map tr1)), (q, .ml ((List.range (k' + 1)).map fun i => encKs (layr h o st i)))])
      (fun _ => [.val (.ref p), .dat (stD st), .dat (.int y), .val (.ref q), .any, .val (.ref a), .any, .any]) (l := (layr h o st k').map tr1) (ve_ixM 3 1 rfl rfl (ve_neg ve_int) ?_) (tg_nm sc_Span_layers.nd) ⟨[], rfl, rfl, by walk_at "WK"⟩ (fun Hb2 hb2 j z dz ks hz hks => ?_) (fun ks hks => ?_) rfl
    · show atI ((List.range (k' + 1)).map fun i => encKs (layr h o st i)) (-1) = _
      rw [List.range_succ, List.map_append]
      exact atI_last _ _
    · have hz2 : (layr h o st k')[j]? = some z := by
        rw [List.getElem?_map] at hz
        cases e : (layr h o st k')[j]? with
        | none => rw [e] at hz; cases hz
        | some u => rw [e] at hz; cases hz; rfl
      have hzo := (hLk.ok z (take_mem hz2)).1
      have hjl := (List.getElem?_eq_some_iff.mp hz2).1
      have b1 := (nxt_pre hh hop ((layr h o st k').take j) [] fun u hu => (hLk.ok u ((List.take_sublist j _).subset hu)).1).2.2
      rw [← hks, List.length_take] at b1
      have b2 : ks.length ≤ 999000 := by simp at b1; omega
      have hks1 : ((layr h o st k').take (j + 1)).foldl (fun a s => (fol h o s).foldl addK a) [] = (fol h o z).foldl addK ks := by
        rw [List.take_add_one, hz2, List.foldl_append, ← hks]
        rfl
      refine gb_forD 7 (fun i (ks' : List Stt) => ks' = ((fol h o z).take i).foldl addK ks) (fun ks' => [(a, .mT (ks'.map tr1)), (q, .ml ((List.range (k' + 1)).map fun i => encKs (layr h o st i)))])
        (fun _ => [.val (.ref p), .dat (stD st), .dat (.int y), .val (.ref q), .any, .val (.ref a), .dat (stD z), .any]) (l := (fol h o z).map tr1) (ve_meth (dm_following T TC) hr (vv_var 0 rfl) (hI.stp hb2) TC.cls (va_cons (ve_var 6 rfl) va_nil) fun n => ⟨h, o, z, par, rfl, hzo, rfl⟩)
        (tg_nm sc_Span_layers.nd) ⟨ks, rfl, rfl, by walk_at "WK"⟩ (fun Hb3 hb3 i u du ks' hu hks' => ?_) (fun ks' hks' => ?_) rfl
      · have hu2 : (fol h o z)[i]? = some u := by
          rw [List.getElem?_map] at hu
          cases e : (fol h o z)[i]? with
          | none => rw [e] at hu; cases hu
          | some v => rw [e] at hu; cases hu; rfl
        have b3 := (adds_one.run ((fol h o z).take i) ks).2.2
        rw [← hks', List.length_take] at b3
        have b4 := (fol_ok hh hop hzo).len
        refine gb_dputT 5 0 (hu_of hr) rfl rfl (ve_var 7 rfl) ve_bl ?_ ?_
        · rw [List.length_map]; omega
        · refine gb_nil fun σ H s => ⟨addK ks' u, ?_, ?_⟩
          · show addK ks' u = ((fol h o z).take (i + 1)).foldl addK ks
            rw [List.take_add_one, hu2, List.foldl_append, ← hks']
            rfl
          · have := s.weak (ρ := [.val (.ref p), .dat (stD st), .dat (.int y), .val (.ref q), .any, .val (.ref a), .dat (stD z), .any]) (by walk_at "WK")
            refine cast ?_ this
            show SA K ⟨_, _, [(a, .mT (put (ks'.map tr1) u (.bool true))), (q, _)], _⟩ σ H = _
            rw [put_tr]
            rfl
      · refine gb_nil fun σ H s => ⟨ks', ?_, ?_⟩
        · rw [hks1, hks', List.length_map, List.take_length]
        · exact s.weak (by walk_at "WK")
    · have hks2 : ks = layr h o st (k' + 1) := by
        rw [hks, List.length_map, List.take_length]
        rfl
      subst hks2
      refine gb_cnt (vv_var 0 rfl) hspb hpo TC.cls TC.n_count (ve_eq (ve_lenM 5 0 T.b_len rfl rfl) (d := .int ((layr h o st (k' + 1)).length : Int)) (by rw [List.length_map])) fun Hb4 hb4 hsp4 => ?_
      rw [← cntL_succ] at hsp4
      have hcl := cntL_le hh hop hs hr100 (k' + 1) (by omega)
      refine gb_ifNo (vt_eq (vt_gt (ve_count (vv_var 0 rfl) hsp4 List.mem_cons_self TC.cls TC.n_count) (ve_kint T.kMAX_STATES)) (by simp; omega)) ?_
      refine gb_frz 5 0 rfl rfl rfl ?_
      refine gb_app 3 0 rfl rfl (ve_var 5 rfl) (by rw [List.length_map, List.length_range]; omega) ?_
      refine gb_nil fun σ H s => ⟨(Hb4, k' + 1), ⟨rfl, hst.trans hb4, hsp4⟩, ?_⟩
      have := s.weak (ρ := [.val (.ref p), .dat (stD st), .dat (.int y), .val (.ref q), .any, .any, .any, .any]) (by walk_at "WK")
      refine cast ?_ this
      show SA K ⟨_, _, [(q, .ml ((List.range (k' + 1)).map (fun i => encKs (layr h o st i)) ++ [encKs (layr h o st (k' + 1))]))], _⟩ σ H = SA K ⟨_, _, [(q, .ml ((List.range (k' + 1 + 1)).map (fun i => encKs (layr h o st i))))], _⟩ σ H
      rw [List.range_succ (n := k' + 1), List.map_append]
      rfl
  · obtain ⟨Hb, k'⟩ := g
    obtain ⟨e, hst, hspb⟩ := hg
    have e : k' = ((y : Int) - 1).toNat := e
    refine gb_frz 3 0 rfl rfl rfl (gb_ret (ve_eq (ve_var 3 rfl) ?_) fun v H' z i => ⟨hst.trans (z.sub fun a m => List.mem_cons_of_mem _ m), i.mono (hid_sub fun a m => List.mem_cons_of_mem _ m)⟩)
    rw [show k' + 1 = y by omega]
end
end LC

namespace LC
open PySem PySem.Spec PyProof.Rows L2 DL
local macro_rules | `(tactic| walk_at "WK") => `(tactic| repeat (first | exact Weak.nil | refine Weak.same ?_ | refine Weak.drop ?_))

abbrev Later := Option (List (Stt × Rat))
def encLt : Later → PyData
  | none => .none
  | some l => .dict (kvE (l.map fun x => (x.1, fr x.2)))
def lf : Later → Stt → Rat
  | none, _ => 0
  | some l, s => (look l s).getD 0
/-- the later chances are there for all that follows -/
def LtOk (h : Hse) (k : Nat) (lt : Later) (s : Stt) (t : Nat) : Prop := ∀ l, lt = some l → ∀ x ∈ chg h s.2.toNat t, 0 ≤ s.1 + x.1 → ∀ y ∈ tns h s.2.toNat, ∃ v, look l (s.1 + x.1, y.1) = some v ∧ Pr k v
theorem LtOk.pr {h : Hse} {k : Nat} {lt : Later} {s : Stt} {t : Nat} (H : LtOk h k lt s t) : ∀ x ∈ chg h s.2.toNat t, 0 ≤ s.1 + x.1 → ∀ y ∈ tns h s.2.toNat, Pr k (lf lt (s.1 + x.1, y.1)) := fun x hx hr y hy => by
  cases lt with
  | none => exact Pr.zero
  | some l =>
    obtain ⟨v, h1, h2⟩ := H l rfl x hx hr y hy
    show Pr k ((look l (s.1 + x.1, y.1)).getD 0)
    rw [h1]
    exact h2
def rWith (_ : Int) (hs pl ch : PyData) (ds : List PyData) (d : PyData) : Prop := ∃ (h : Hse) (o : Option Plan) (s : Stt) (t k : Nat) (lt : Later), Par h o hs pl ch ∧ k ≤ 40 ∧ ds = [stD s, .int (t : Int), encLt lt] ∧ StOk h s ∧ t < h.ts.length ∧ LtOk h k lt s t ∧ d = fr (stepV h (lf lt) s t)
def rBest (_ : Int) (hs pl ch : PyData) (ds : List PyData) (d : PyData) : Prop := ∃ (h : Hse) (o : Option Plan) (s : Stt) (k : Nat) (lt : Later) (v : Rat) (u : Nat), Par h o hs pl ch ∧ k ≤ 40 ∧ ds = [stD s, encLt lt] ∧ StOk h s ∧ (∀ t ∈ trt h o s, LtOk h k lt s t) ∧ pickL (stepV h (lf lt) s) (trt h o s) = some (v, u) ∧ d = .tuple [fr v, .int (u : Int)]
def rRuin (n : Int) (hs pl ch : PyData) (ds : List PyData) (d : PyData) : Prop := ∃ (h : Hse) (o : Option Plan) (s : Stt) (y : Nat), Par h o hs pl ch ∧ n = 0 ∧ ds = [stD s, .int ((y + 1 : Nat) : Int)] ∧ StOk h s ∧ s.1 ≤ 100 ∧ y + 1 ≤ 10 ∧ d = .tuple [fr (U h o (y + 1) s), .int (Ar h o y s : Nat)]
/-- partial sums over a list, as the loops make them -/
theorem loop_pr {α : Type} {f : α → Rat} {k : Nat} {xs : List α} {t : Rat} (ht : Pr k t) (h : ∀ x ∈ xs, Pr k (f x)) (hs : t + sumF f xs ≤ 1) (j : Nat) : Pr k ((xs.take j).foldl (fun t x => t + f x) t) := by
  rw [foldl_sum]
  exact ht.pre h hs j
section
variable {P : Program} {w : World} {K : PySem.W.Frag} {mg : Str → Option Value} {base : Heap}
theorem dm_with_treaty (T : Tx K mg) {C : Addr} (TC : SpanT K mg C) : DM P w K mg base C "with_treaty" 3 rWith := by
  obtain ⟨f, fd, hm, F⟩ := TC.with_treaty
  refine dm_mk hm F sc_Span_with_treaty (bind4 F) (by decide +kernel) (fun n hs pl ch ds d h => by obtain ⟨h, o, s, t, k, lt, _, _, rfl, _⟩ := h; rfl) fun cdv A outer s H E os p n hs pl ch ds d hr h hsp ho σ sa => ?_
  obtain ⟨h, o, st, t, k, lt, par, hk, rfl, hs, ht, hlt, rfl⟩ := h
  obtain ⟨rfl, rfl, rfl, hh, hop⟩ := id par
  have hI : SpIn K C ⟨H, os, [], []⟩ p (encH h) (encO o) (encCh h) := ⟨n, hsp⟩
  have so := step_ok hh hs ht hlt.pr
  have hc := chg_ok hh hs.lt ht
  have hsum : (0 : Rat) + sumF (stp1 h (lf lt) st) (chg h st.2.toNat t) ≤ 1 := by rw [Rat.zero_add]; exact so.one
  refine (?_ : GB _ ⟨H, os, [], .val (.ref p) :: ([stD st, .int t, encLt lt].map SD.dat ++ List.replicate 8 SD.any)⟩ _ _) σ H sa
  refine gb_unpack (.two 4 5) (tg_two rfl sc_Span_with_treaty.nd) (ve_var 1 rfl) rfl ?_
  refine gb_set 6 (ve_none (K := K) T) ?_ sc_Span_with_treaty.nd
  refine gb_fold (.two 7 8) (chg h st.2.toNat t) encI (fun v x => v + stp1 h (lf lt) st x) 0 (fun _ => []) (fun v => [.val (.ref p), .dat (stD st), .dat (.int t), .dat (encLt lt), .dat (.int st.1), .dat (.int st.2), .dat (fr v), .any, .any, .any, .any, .any])
    (ve_chgs (ve_changes (vv_var 0 rfl) hI.same TC.cls TC.n_changes) (ve_var 5 rfl) (ve_var 2 rfl) hs ht) (tg_two rfl sc_Span_with_treaty.nd) ⟨rfl, by walk_at "WK"⟩ (fun Hb hb j x hj => ⟨_, rfl, ?_⟩) ?_ rfl
  · have hx := take_mem hj
    have p1 := loop_pr (Pr.zero (k := k + 4)) so.term hsum j
    have s1 : (chg h st.2.toNat t).take (j + 1) = (chg h st.2.toNat t).take j ++ [x] := by rw [List.take_add_one, hj]; rfl
    have p2 := loop_pr (Pr.zero (k := k + 4)) so.term hsum (j + 1)
    rw [s1, List.foldl_append] at p2
    generalize ((chg h st.2.toNat t).take j).foldl (fun v x => v + stp1 h (lf lt) st x) 0 = v0 at p1 p2
    have p2 : Pr (k + 4) (v0 + stp1 h (lf lt) st x) := p2
    have px := hc.pr x hx
    by_cases h0 : st.1 + x.1 < 0
    · refine gb_if (vt_eq (vt_lt (ve_add (ve_var 4 rfl) (ve_var 7 rfl)) ve_int) (decide_eq_true h0)) (fun _ => ?_) fun z => nomatch z
      refine gb_set 6 (ve_eq (ve_call ((df_plus T).up (by decide : 2 ≤ 2)) hr (va_cons (ve_var 6 rfl) (va_cons (ve_var 8 rfl) va_nil)) ⟨v0, x.2, rfl, p1.sm (by omega), px.1.sm (by decide), rfl⟩) (?_ : fr (v0 + x.2) = fr (v0 + stp1 h (lf lt) st x))) (gb_thn rfl (gb_fin rfl (by walk_at "WK"))) sc_Span_with_treaty.nd
      unfold stp1
      rw [if_pos h0, Rat.mul_one]
    · refine gb_if (vt_eq (vt_lt (ve_add (ve_var 4 rfl) (ve_var 7 rfl)) ve_int) (decide_eq_false h0)) (fun z => nomatch z) fun _ => ?_
      have e0 : stp1 h (lf lt) st x = x.2 * innr h (lf lt) (st.1 + x.1) st.2.toNat := by unfold stp1; rw [if_neg h0]
      rw [e0] at p2
      cases lt with
      | none =>
        refine gb_ifNo (vt_eq (vt_notN (ve_var 3 rfl)) rfl) (gb_thn rfl ?_)
        have e1 : v0 = v0 + stp1 h (lf none) st x := by
          rw [e0]
          have : innr h (lf none) (st.1 + x.1) st.2.toNat = 0 := by
            have z : innr h (lf none) (st.1 + x.1) st.2.toNat = sumF (fun y : Int × Rat => (0 : Rat) * y.2) (tns h st.2.toNat) := sumF_congr fun y _ => by show y.2 * 0 = 0 * y.2; grind
            rw [z, sumF_mul, Rat.zero_mul]
          rw [this, Rat.mul_zero, Rat.add_zero]
        refine gb_fin rfl ?_
        show Weak _ [.val (.ref p), .dat (stD st), .dat (.int t), .dat (encLt none), .dat (.int st.1), .dat (.int st.2), .dat (fr (v0 + stp1 h (lf none) st x)), .any, .any, .any, .any, .any]
        rw [← e1]
        walk_at "WK"
      | some l =>
        refine gb_if (vt_eq (k' := true) (vt_notN (ve_var 3 rfl)) rfl) (fun _ => ?_) fun z => nomatch z
        have hl := fun y hy => hlt l rfl x hx (by omega) y hy
        have ip := innr_pr hh hs.lt (k := k) (f := lf (some l)) (r := st.1 + x.1) fun y hy => hlt.pr x hx (by omega) y hy
        have it : ∀ y ∈ tns h st.2.toNat, Pr (k + 4) (x.2 * (y.2 * lf (some l) (st.1 + x.1, y.1))) := fun y hy => by
          have := px.1.mul (ip.1 y hy)
          rw [show 3 + (k + 1) = k + 4 by omega] at this
          exact this
        have isum : v0 + sumF (fun y => x.2 * (y.2 * lf (some l) (st.1 + x.1, y.1))) (tns h st.2.toNat) ≤ 1 := by rw [sumF_mul]; exact p2.one
        refine gb_fold (.two 9 10) (tns h st.2.toNat) encI (fun v y => v + x.2 * (y.2 * lf (some l) (st.1 + x.1, y.1))) v0 (fun _ => []) (fun v => [.val (.ref p), .dat (stD st), .dat (.int t), .dat (encLt (some l)), .dat (.int st.1), .dat (.int st.2), .dat (fr v), .dat (.int x.1), .dat (fr x.2), .any, .any, .any])
          (ve_turns (ve_house (vv_var 0 rfl) (hI.stp hb) TC.cls TC.n_house) (ve_var 5 rfl) hs) (tg_two rfl sc_Span_with_treaty.nd) ⟨rfl, by walk_at "WK"⟩ (fun Hb2 hb2 i y hi => ⟨_, rfl, ?_⟩) ?_ rfl
        · have hy := take_mem hi
          have q1 := loop_pr p1 it isum i
          generalize ((tns h st.2.toNat).take i).foldl (fun v y => v + x.2 * (y.2 * lf (some l) (st.1 + x.1, y.1))) v0 = v1 at q1
          obtain ⟨v, lv, pv⟩ := hl y hy
          have ev : lf (some l) (st.1 + x.1, y.1) = v := by show (look l (st.1 + x.1, y.1)).getD 0 = v; rw [lv]; rfl
          have py := ((tns_ok hh hs.lt).sp.pr y hy).1
          have pm : Pr (k + 1) (y.2 * v) := by rw [← ev]; exact ip.1 y hy
          have pn : Pr (k + 4) (x.2 * (y.2 * v)) := by rw [← ev]; exact it y hy
          refine gb_set 11 (ve_call ((df_times T).up (by decide : 2 ≤ 2)) hr (va_cons (ve_var 10 rfl) (va_cons (ve_dget (k := (st.1 + x.1, y.1)) (d := fr v) (hu_of hr) (ve_var 3 rfl) (ve_tupK (i := st.1 + x.1) (j := y.1) (va_cons (ve_add (ve_var 4 rfl) (ve_var 7 rfl)) (va_cons (ve_var 9 rfl) va_nil))) ?_) va_nil)) ⟨y.2, v, rfl, py.sm (by decide), pv.sm (by omega), rfl⟩) ?_ sc_Span_with_treaty.nd
          · rw [look_map, lv]; rfl
          · refine gb_set 6 (ve_eq (ve_call ((df_plus T).up (by decide : 2 ≤ 2)) hr (va_cons (ve_var 6 rfl) (va_cons (ve_call ((df_times T).up (by decide : 2 ≤ 2)) hr (va_cons (ve_var 8 rfl) (va_cons (ve_var 11 rfl) va_nil)) ⟨x.2, y.2 * v, rfl, px.1.sm (by decide), pm.sm (by omega), rfl⟩) va_nil)) ⟨v1, x.2 * (y.2 * v), rfl, q1.sm (by omega), pn.sm (by omega), rfl⟩)
              (?_ : fr (v1 + x.2 * (y.2 * v)) = fr (v1 + x.2 * (y.2 * lf (some l) (st.1 + x.1, y.1))))) (gb_fin rfl (by walk_at "WK")) sc_Span_with_treaty.nd
            rw [ev]
        · refine gb_thn rfl (gb_thn rfl (gb_fin rfl ?_))
          have e2 : (tns h st.2.toNat).foldl (fun v y => v + x.2 * (y.2 * lf (some l) (st.1 + x.1, y.1))) v0 = v0 + stp1 h (lf (some l)) st x := by
            rw [foldl_sum, sumF_mul, e0]
            rfl
          show Weak [_, _, _, _, _, _, .dat (fr ((tns h st.2.toNat).foldl (fun v y => v + x.2 * (y.2 * lf (some l) (st.1 + x.1, y.1))) v0)), _, _, _, _, _] [_, _, _, _, _, _, .dat (fr (v0 + stp1 h (lf (some l)) st x)), _, _, _, _, _]
          rw [e2]
          walk_at "WK"
  · refine gb_ret (ve_eq (ve_var 6 rfl) ?_)
    rw [foldl_sum, Rat.zero_add]
    rfl
end
end LC

namespace LC
open PySem PySem.Spec PyProof.Rows L2 DL
local macro_rules | `(tactic| walk_at "WK") => `(tactic| repeat (first | exact Weak.nil | refine Weak.same ?_ | refine Weak.drop ?_))

def oV : Option (Rat × Nat) → PyData
  | none => .none
  | some (v, _) => fr v
def oT : Option (Rat × Nat) → PyData
  | none => .none
  | some (_, t) => .int (t : Int)
/-- the table of a row's chances -/
def ltab (h : Hse) (o : Option Plan) (s : Stt) (i k : Nat) : List (Stt × Rat) := (layr h o s i).map fun z => (z, U h o k z)
def later (h : Hse) (o : Option Plan) (s : Stt) (n k : Nat) : Later := if k = 0 then none else some (ltab h o s (n - k) k)
theorem ltab_look {h : Hse} {o : Option Plan} {s : Stt} {i k : Nat} {z : Stt} (nd : (layr h o s i).Nodup) (hz : z ∈ layr h o s i) : look (ltab h o s i k) z = some (U h o k z) := by
  refine look_mem ?_ (List.mem_map.mpr ⟨z, hz, rfl⟩)
  unfold ltab
  rw [List.map_map]
  have e : (layr h o s i).map ((fun x : Stt × Rat => x.1) ∘ fun z => (z, U h o k z)) = layr h o s i := List.map_id _
  rw [e]
  exact nd
theorem later_ok {h : Hse} (hh : HseOk h) {o : Option Plan} (ho : OPlanOk h o) {s : Stt} (hs : StOk h s) {n k : Nat} (hk : k ≤ n) {z : Stt} (hz : z ∈ layr h o s (n - k - 1)) (hk1 : k < n) {t : Nat} (ht : t ∈ trt h o z) : LtOk h (4 * k) (later h o s n k) z t := fun l e x hx hr y hy => by
  unfold later at e
  split at e
  · cases e
  · cases e
    have h1 := layr_next hh ho hs hz ht hx hr hy
    rw [show n - k - 1 + 1 = n - k by omega] at h1
    have L := layr_ok hh ho hs (n - k)
    exact ⟨_, ltab_look L.nd h1, u_pr hh ho k (L.ok _ h1).1⟩
theorem later_val {h : Hse} (hh : HseOk h) {o : Option Plan} (ho : OPlanOk h o) {s : Stt} (hs : StOk h s) {n k : Nat} {z : Stt} (hz : z ∈ layr h o s (n - k - 1)) (hk1 : k < n) {t : Nat} (ht : t ∈ trt h o z) : stepV h (lf (later h o s n k)) z t = stepV h (U h o k) z t := by
  refine step_congr fun x hx hr y hy => ?_
  unfold later
  split
  · rename_i e
    subst e
    rfl
  · have h1 := layr_next hh ho hs hz ht hx hr hy
    rw [show n - k - 1 + 1 = n - k by omega] at h1
    have L := layr_ok hh ho hs (n - k)
    show (look (ltab h o s (n - k) k) (z.1 + x.1, y.1)).getD 0 = _
    rw [ltab_look L.nd h1]
    rfl
theorem later_pick {h : Hse} (hh : HseOk h) {o : Option Plan} (ho : OPlanOk h o) {s : Stt} (hs : StOk h s) {n k : Nat} {z : Stt} (hz : z ∈ layr h o s (n - k - 1)) (hk1 : k < n) : pickL (stepV h (lf (later h o s n k)) z) (trt h o z) = some (U h o (k + 1) z, Ar h o k z) := by
  rw [← u_pick hh o k z]
  exact pick_congr fun t ht => later_val hh ho hs hz hk1 ht
section
variable {P : Program} {w : World} {K : PySem.W.Frag} {mg : Str → Option Value} {base : Heap}
theorem dm_best (T : Tx K mg) {C : Addr} (TC : SpanT K mg C) : DM P w K mg base C "best" 4 rBest := by
  obtain ⟨f, fd, hm, F⟩ := TC.best
  refine dm_mk hm F sc_Span_best (bind3 F) (by decide +kernel) (fun n hs pl ch ds d h => by obtain ⟨h, o, s, k, lt, v, u, _, _, rfl, _⟩ := h; rfl) fun cdv A outer s H E os p n hs pl ch ds d hr h hsp ho σ sa => ?_
  obtain ⟨h, o, st, k, lt, v, u, par, hk, rfl, hs, hlt, hpick, rfl⟩ := h
  obtain ⟨rfl, rfl, rfl, hh, hop⟩ := id par
  have hI : SpIn K C ⟨H, os, [], []⟩ p (encH h) (encO o) (encCh h) := ⟨n, hsp⟩
  refine (?_ : GB _ ⟨H, os, [], .val (.ref p) :: ([stD st, encLt lt].map SD.dat ++ List.replicate 4 SD.any)⟩ _ _) σ H sa
  refine gb_set 3 ve_non ?_ sc_Span_best.nd
  refine gb_set 4 ve_non ?_ sc_Span_best.nd
  refine gb_fold (.nm 5) (trt h o st) (fun (t : Nat) => PyData.int (t : Int)) (pickS (stepV h (lf lt) st)) none (fun _ => []) (fun acc => [.val (.ref p), .dat (stD st), .dat (encLt lt), .dat (oV acc), .dat (oT acc), .any, .any])
    (ve_meth ((dm_treaties T TC).up (by decide : 2 ≤ 3)) hr (vv_var 0 rfl) hI.same TC.cls (va_cons (ve_var 1 rfl) va_nil) fun n => ⟨h, o, st, par, rfl, hs, rfl⟩) (tg_nm sc_Span_best.nd) ⟨rfl, by walk_at "WK"⟩ (fun Hb hb j t hj => ⟨_, rfl, ?_⟩) ?_ rfl
  · have htm := take_mem hj
    have ht := trt_lt hop hs t htm
    have so := step_ok hh hs ht (hlt t htm).pr
    refine gb_set 6 (ve_meth (dm_with_treaty T TC) hr (vv_var 0 rfl) (hI.stp hb) TC.cls (va_cons (ve_var 1 rfl) (va_cons (ve_var 5 rfl) (va_cons (ve_var 2 rfl) va_nil))) fun n => ⟨h, o, st, t, k, lt, par, hk, rfl, hs, ht, hlt t htm, rfl⟩) ?_ sc_Span_best.nd
    have acc_ok : ∀ v u, ((trt h o st).take j).foldl (pickS (stepV h (lf lt) st)) none = some (v, u) → Pr (k + 4) v := fun v u e => by
      obtain ⟨h1, _, _⟩ := pick_fold ((trt h o st).take j) none v u e
      rcases h1 with h1 | ⟨h1, h2⟩
      · cases h1
      · have h3 := (List.take_sublist j _).subset h1
        rw [h2]
        exact (step_ok hh hs (trt_lt hop hs u h3) (hlt u h3).pr).pr
    generalize ((trt h o st).take j).foldl (pickS (stepV h (lf lt) st)) none = acc at acc_ok
    cases acc with
    | none =>
      refine gb_if (vt_eq (k' := true) (vw_pt (vw_or (k' := true) (vt_isN (ve_var 3 rfl)) fun z => nomatch z)) rfl) (fun _ => ?_) fun z => nomatch z
      refine gb_set 3 (ve_var 6 rfl) ?_ sc_Span_best.nd
      refine gb_set 4 (ve_var 5 rfl) ?_ sc_Span_best.nd
      exact gb_thn rfl (gb_fin rfl (by walk_at "WK"))
    | some a =>
      obtain ⟨v0, u0⟩ := a
      have p0 := acc_ok v0 u0 rfl
      have hstep : pickS (stepV h (lf lt) st) (some (v0, u0)) t = if stepV h (lf lt) st t < v0 then some (stepV h (lf lt) st t, t) else some (v0, u0) := rfl
      rw [hstep]
      by_cases c : stepV h (lf lt) st t < v0
      · rw [if_pos c]
        refine gb_if (vt_eq (k' := true) (vw_pt (vw_or (vt_isN (ve_var 3 rfl)) fun _ => vw_or1 (vt_val (ve_call ((df_is_less T).up (by decide : 1 ≤ 3)) hr (va_cons (ve_var 6 rfl) (va_cons (ve_var 3 rfl) va_nil)) ⟨_, v0, rfl, so.pr.sm (by omega), p0.sm (by omega), rfl⟩)))) ?_) (fun _ => ?_) fun z => nomatch z
        · rw [decide_eq_true c]; rfl
        · refine gb_set 3 (ve_var 6 rfl) ?_ sc_Span_best.nd
          refine gb_set 4 (ve_var 5 rfl) ?_ sc_Span_best.nd
          exact gb_thn rfl (gb_fin rfl (by walk_at "WK"))
      · rw [if_neg c]
        refine gb_ifNo (vt_eq (vw_pt (vw_or (vt_isN (ve_var 3 rfl)) fun _ => vw_or1 (vt_val (ve_call ((df_is_less T).up (by decide : 1 ≤ 3)) hr (va_cons (ve_var 6 rfl) (va_cons (ve_var 3 rfl) va_nil)) ⟨_, v0, rfl, so.pr.sm (by omega), p0.sm (by omega), rfl⟩)))) ?_) (gb_fin rfl (by walk_at "WK"))
        rw [decide_eq_false c]; rfl
  · have e : (trt h o st).foldl (pickS (stepV h (lf lt) st)) none = some (v, u) := hpick
    rw [e]
    exact gb_ret (ve_tup (va_cons (ve_var 3 rfl) (va_cons (ve_var 4 rfl) va_nil)))
theorem dx_ruin (T : Tx K mg) {C : Addr} (TC : SpanT K mg C) : DX P w K mg base C "ruin" 5 rRuin := by
  obtain ⟨f, fd, hm, F⟩ := TC.ruin
  refine dx_mk hm F sc_Span_ruin (bind3 F) (by decide +kernel) (fun n hs pl ch ds d h => by obtain ⟨h, o, s, y, _, _, rfl, _⟩ := h; rfl) fun cdv A outer s H E os p n hs pl ch ds d hr h hsp hpo ho σ sa => ?_
  obtain ⟨h, o, st, y, par, rfl, rfl, hs, hr100, hy10, rfl⟩ := h
  obtain ⟨rfl, rfl, rfl, hh, hop⟩ := id par
  refine (?_ : GB _ ⟨H, p :: os, [], .val (.ref p) :: ([stD st, .int ((y + 1 : Nat) : Int)].map SD.dat ++ List.replicate 4 SD.any)⟩ _ _) σ H sa
  refine gb_set 3 ve_non ?_ sc_Span_ruin.nd
  refine gb_setX 4 (dx_layers T TC) hr (vv_var 0 rfl) hsp hpo TC.cls (va_cons (ve_var 1 rfl) (va_cons (ve_var 2 rfl) va_nil)) ⟨h, o, st, y + 1, par, rfl, rfl, hs, hr100, by omega, hy10, rfl⟩ (fun Hb hb hsp2 => ?_) sc_Span_ruin.nd
  have hI : SpIn K C ⟨Hb, os, [], []⟩ p (encH h) (encO o) (encCh h) := hsp2
  have rowsd : ((List.range (y + 1)).map fun i => encKs (layr h o st i)).drop 1 = (List.range y).map fun i => encKs (layr h o st (i + 1)) := by
    rw [List.range_succ_eq_map, List.map_cons, List.map_map]
    rfl
  refine gb_forRev (.nm 5) (fun k (g : Nat) => g = k) (fun _ => []) (fun g => [.val (.ref p), .dat (stD st), .dat (.int ((y + 1 : Nat) : Int)), .dat (encLt (later h o st (y + 1) g)), .dat (encLs h o st (y + 1)), .any, .any]) T.b_reversed (ve_tail (ve_var 4 rfl)) (tg_nm sc_Span_ruin.nd) ⟨0, rfl, rfl, by walk_at "WK"⟩
    (fun Hb2 hb2 k dr g hk hg => ?_) (fun g hg => ?_) rfl
  · subst hg
    have hgy : g < y := by
      have := (List.getElem?_eq_some_iff.mp hk).1
      rw [rowsd, List.length_reverse, List.length_map, List.length_range] at this
      exact this
    rw [rowsd, List.getElem?_reverse (by rw [List.length_map, List.length_range]; exact hgy), List.length_map, List.length_range, List.getElem?_map, List.getElem?_range (by omega)] at hk
    have hdr : encKs (layr h o st (y - 1 - g + 1)) = dr := Option.some.inj hk
    subst hdr
    have ei : y - 1 - g + 1 = y + 1 - g - 1 := by omega
    rw [ei]
    have L := layr_ok hh hop hs (y + 1 - g - 1)
    have ll := layr_len hh hop hs hr100 (y + 1 - g - 1)
    have e1 : ((layr h o st (y + 1 - g - 1)).map tr1).map (·.1) = layr h o st (y + 1 - g - 1) := by rw [List.map_map]; exact List.map_id _
    refine ⟨_, rfl, ?_⟩
    refine gb_set 3 (ve_eq (ve_dcT 6 (fun z => fr (U h o (g + 1) z)) hr.units0 (l := (layr h o st (y + 1 - g - 1)).map tr1) (ve_var 5 rfl) (blkOk_by (own := [("known", 6)]) rfl) (by rw [e1]; exact L.nd) (by rw [List.length_map]; omega) (fun _ _ _ _ _ => tg_nm sc_Span_ruin.nd) ?_ rfl sc_Span_ruin.nd (by decide)) (?_ : _ = encLt (later h o st (y + 1) (g + 1)))) ?_ sc_Span_ruin.nd
    · intro Hb3 Da acc z hst hz _ _ _ _ _
      rw [e1] at hz
      refine ⟨ve_var 6 rfl, ve_ixT (ve_meth (dm_best T TC) hr (vv_var 0 rfl) (hI.stp (hb2.trans hst)) TC.cls (va_cons (ve_var 6 rfl) (va_cons (ve_var 3 rfl) va_nil)) fun n => ⟨h, o, z, 4 * g, later h o st (y + 1) g, _, _, par, by omega, rfl, (L.ok z hz).1, fun t ht => later_ok hh hop hs (by omega) hz (by omega) ht, later_pick hh hop hs hz (by omega), rfl⟩) ve_int rfl⟩
    · unfold later
      rw [if_neg (by omega)]
      show PyData.dict (kvE _) = PyData.dict (kvE _)
      unfold ltab
      rw [List.map_map, List.map_map, show y + 1 - (g + 1) = y + 1 - g - 1 by omega]
      rfl
    · exact gb_nil fun σ H s => ⟨g + 1, rfl, s.weak (by walk_at "WK")⟩
  · rw [rowsd, List.length_map, List.length_range] at hg
    subst hg
    have hz : st ∈ layr h o st (g + 1 - g - 1) := by rw [show g + 1 - g - 1 = 0 by omega]; exact List.mem_cons_self
    refine gb_ret (ve_meth (dm_best T TC) hr (vv_var 0 rfl) hI.same TC.cls (va_cons (ve_var 1 rfl) (va_cons (ve_var 3 rfl) va_nil)) fun n => ⟨h, o, st, 4 * g, later h o st (g + 1) g, _, _, par, by omega, rfl, hs, fun t ht => later_ok hh hop hs (by omega) hz (by omega) ht, later_pick hh hop hs hz (by omega), rfl⟩) fun v H' z i => ⟨?_, i⟩
    exact hb.trans z
end
end LC

namespace LC
open PySem PySem.Spec PyProof.Rows L2 DL

/-! ### a year forwards: events. A state below 0 is ruin -/
abbrev Ev := Stt × Rat
abbrev Fw := Rat × List (Stt × Rat)
def evS (g : Fw) (e : Ev) : Fw := if e.1.1 < 0 then (g.1 + e.2, g.2) else (g.1, gst g.2 e)
/-- what holds of (ruined, after) with a budget b left; at most n places -/
structure EvOk (kk : Nat) (g : Fw) (b : Rat) (n : Nat) : Prop where
  pr : Pr kk g.1
  tb : ∃ L, Gt kk L g.2 ∧ g.1 + sumF (·.2) L + b ≤ 1
  len : g.2.length ≤ n
theorem EvOk.start {kk : Nat} {ru : Rat} (h : Pr kk ru) {b : Rat} (hb : ru + b ≤ 1) : EvOk kk (ru, []) b 0 := ⟨h, ⟨[], gt_nil, by show ru + 0 + b ≤ 1; rw [Rat.add_zero]; exact hb⟩, Nat.le_refl _⟩
theorem EvOk.less {kk : Nat} {g : Fw} {b b' : Rat} {n n' : Nat} (h : EvOk kk g b n) (hb : b' ≤ b) (hn : n ≤ n') : EvOk kk g b' n' := by
  obtain ⟨h1, ⟨L, h2, h3⟩, h4⟩ := h
  exact ⟨h1, ⟨L, h2, by grind⟩, Nat.le_trans h4 hn⟩
theorem gt_tot {κ : Type} [DecidableEq κ] {kk : Nat} {L t : List (κ × Rat)} (h : Gt kk L t) : sumF (·.2) t = sumF (·.2) L := by
  have := h.sum fun _ => 1
  rw [sum_one (f := fun x : κ × Rat => x.2), sum_one (f := fun x : κ × Rat => x.2)] at this
  exact this
theorem Gt.mass0 {kk : Nat} {L t : List (Stt × Rat)} (h : Gt kk L t) : 0 ≤ sumF (·.2) L := by
  rw [← gt_tot h]
  exact sumF_nonneg fun x hx => (h.pr x hx).1.pos
theorem EvOk.b1 {kk : Nat} {g : Fw} {b : Rat} {n : Nat} (h : EvOk kk g b n) : g.1 + b ≤ 1 := by
  obtain ⟨h1, ⟨L, h2, h3⟩, h4⟩ := h
  have := h2.mass0
  grind
/-- ruin -/
theorem EvOk.ruin {kk : Nat} {g : Fw} {b b' : Rat} {n : Nat} {e : Ev} (h : EvOk kk g b n) (he : Pr kk e.2) (hb : e.2 + b' ≤ b) (hb0 : 0 ≤ b') (h0 : e.1.1 < 0) : evS g e = (g.1 + e.2, g.2) ∧ EvOk kk (evS g e) b' n := by
  have e1 : evS g e = (g.1 + e.2, g.2) := if_pos h0
  obtain ⟨h1, ⟨L, h2, h3⟩, h4⟩ := h
  have m0 := h2.mass0
  rw [e1]
  exact ⟨rfl, ⟨h1.add he (by grind), ⟨L, h2, by show g.1 + e.2 + _ + b' ≤ 1; grind⟩, h4⟩⟩
/-- .. no ruin -/
theorem EvOk.live {kk : Nat} {g : Fw} {b b' : Rat} {n : Nat} {e : Ev} (h : EvOk kk g b n) (he : Pr kk e.2) (hp : 0 < e.2) (hb : e.2 + b' ≤ b) (hb0 : 0 ≤ b') (h0 : ¬ e.1.1 < 0) :
    evS g e = (g.1, gst g.2 e) ∧ EvOk kk (evS g e) b' (n + 1) ∧ Pr kk ((look g.2 e.1).getD 0) := by
  have e1 : evS g e = (g.1, gst g.2 e) := if_neg h0
  obtain ⟨h1, ⟨L, h2, h3⟩, h4⟩ := h
  have p0 := h1.pos
  obtain ⟨g1, g2, _⟩ := gst_ok h2 he hp (by grind)
  rw [e1]
  refine ⟨rfl, ⟨h1, ⟨_, g1, ?_⟩, ?_⟩, g2⟩
  · rw [sumF_append]
    show g.1 + (_ + (e.2 + 0)) + b' ≤ 1
    grind
  · have := put_len g.2 e.1 ((look g.2 e.1).getD 0 + e.2)
    show (put _ _ _).length ≤ _
    omega
theorem EvOk.run {kk : Nat} : ∀ (es : List Ev) {g : Fw} {b b' : Rat} {n : Nat}, EvOk kk g b n → (∀ e ∈ es, Pr kk e.2 ∧ 0 < e.2) → sumF (·.2) es + b' ≤ b → 0 ≤ b' → EvOk kk (es.foldl evS g) b' (n + es.length)
  | [], g, b, b', n, h, _, hb, _ => h.less (by have hb : (0 : Rat) + b' ≤ b := hb; rw [Rat.zero_add] at hb; exact hb) (Nat.le_refl _)
  | e :: es, g, b, b', n, h, he, hb, hb0 => by
    have n2 : 0 ≤ sumF (·.2) es := sumF_nonneg fun x m => (he x (List.mem_cons_of_mem _ m)).1.pos
    have hb : e.2 + sumF (·.2) es + b' ≤ b := hb
    have h1 := he e List.mem_cons_self
    have h2 : EvOk kk (evS g e) (sumF (·.2) es + b') (n + 1) := by
      by_cases h0 : e.1.1 < 0
      · exact (h.ruin h1.1 (by grind) (by grind) h0).2.less Rat.le_refl (by omega)
      · exact (h.live h1.1 h1.2 (by grind) (by grind) h0).2.1
    have := EvOk.run es h2 (fun x m => he x (List.mem_cons_of_mem _ m)) Rat.le_refl hb0
    rw [List.length_cons, show n + (es.length + 1) = n + 1 + es.length by omega]
    exact this
/-- what a run comes to -/
theorem ev_run {kk : Nat} : ∀ (es : List Ev) {g : Fw} {b : Rat} {L : List (Stt × Rat)}, Gt kk L g.2 → Pr kk g.1 → g.1 + sumF (·.2) L + b ≤ 1 → (∀ e ∈ es, Pr kk e.2 ∧ 0 < e.2) → sumF (·.2) es ≤ b →
    (es.foldl evS g).1 = g.1 + sumF (fun e => if e.1.1 < 0 then e.2 else 0) es ∧ Gt kk (L ++ es.filter fun e => !decide (e.1.1 < 0)) (es.foldl evS g).2
  | [], g, b, L, hG, hp, hb, _, _ => ⟨by show g.1 = g.1 + 0; rw [Rat.add_zero], by rw [List.filter_nil, List.append_nil]; exact hG⟩
  | e :: es, g, b, L, hG, hp, hb, he, hs => by
    have n2 : 0 ≤ sumF (·.2) es := sumF_nonneg fun x m => (he x (List.mem_cons_of_mem _ m)).1.pos
    have hs : e.2 + sumF (·.2) es ≤ b := hs
    have h1 := he e List.mem_cons_self
    have m0 := hG.mass0
    have p0 := hp.pos
    by_cases h0 : e.1.1 < 0
    · have e1 : evS g e = (g.1 + e.2, g.2) := if_pos h0
      have := ev_run es (g := evS g e) (b := b - e.2) (L := L) (by rw [e1]; exact hG) (by rw [e1]; exact hp.add h1.1 (by grind)) (by rw [e1]; show g.1 + e.2 + _ + _ ≤ 1; grind) (fun x m => he x (List.mem_cons_of_mem _ m)) (by grind)
      rw [List.foldl_cons]
      refine ⟨?_, ?_⟩
      · rw [this.1, e1]
        show g.1 + e.2 + _ = g.1 + ((if e.1.1 < 0 then e.2 else 0) + _)
        rw [if_pos h0]
        grind
      · have e2 : (e :: es).filter (fun e => !decide (e.1.1 < 0)) = es.filter fun e => !decide (e.1.1 < 0) := by
          rw [List.filter_cons_of_neg]
          simp [h0]
        rw [e2]
        exact this.2
    · have e1 : evS g e = (g.1, gst g.2 e) := if_neg h0
      have h2 := (gst_ok hG h1.1 h1.2 (by grind)).1
      have := ev_run es (g := evS g e) (b := b - e.2) (L := L ++ [e]) (by rw [e1]; exact h2) (by rw [e1]; exact hp) (by rw [e1, sumF_append]; show g.1 + (_ + (e.2 + 0)) + _ ≤ 1; grind) (fun x m => he x (List.mem_cons_of_mem _ m)) (by grind)
      rw [List.foldl_cons]
      refine ⟨?_, ?_⟩
      · rw [this.1, e1]
        show g.1 + _ = g.1 + ((if e.1.1 < 0 then e.2 else 0) + _)
        rw [if_neg h0, Rat.zero_add]
      · have e2 : (e :: es).filter (fun e => !decide (e.1.1 < 0)) = e :: es.filter fun e => !decide (e.1.1 < 0) := by
          rw [List.filter_cons_of_pos]
          simp [h0]
        rw [e2]
        have h3 := this.2
        rw [List.append_assoc] at h3
        exact h3
theorem sumF_filter {α : Type} (p : α → Bool) (f : α → Rat) : ∀ es : List α, sumF f (es.filter p) = sumF (fun e => if p e = true then f e else 0) es
  | [] => rfl
  | e :: es => by
    show _ = (if p e = true then f e else 0) + sumF _ es
    rw [← sumF_filter p f es]
    by_cases h : p e = true
    · rw [List.filter_cons_of_pos h, if_pos h]; rfl
    · rw [List.filter_cons_of_neg h, if_neg h, Rat.zero_add]
/-- the whole chances of a place -/
structure RestOk (kk : Nat) (h : Hse) (B : Int) (g : Fw) : Prop where
  pr : Pr kk g.1
  nd : (g.2.map (·.1)).Nodup
  tb : ∀ x ∈ g.2, Pr kk x.2 ∧ 0 < x.2
  ok : ∀ x ∈ g.2, StOk h x.1 ∧ x.1.1 ≤ B
  tot : g.1 + sumF (·.2) g.2 = 1
theorem RestOk.mem {kk : Nat} {h : Hse} {B : Int} {g : Fw} (r : RestOk kk h B g) {x : Stt × Rat} (hx : x ∈ g.2) : look g.2 x.1 = some x.2 := look_mem r.nd hx
theorem RestOk.len {kk : Nat} {h : Hse} {B : Nat} {g : Fw} (hh : HseOk h) (r : RestOk kk h B g) : g.2.length ≤ (B + 1) * 4 := by
  have := box_len hh r.nd fun k hk => by
    obtain ⟨x, hx, rfl⟩ := List.mem_map.mp hk
    exact r.ok x hx
  rw [List.length_map] at this
  exact this
/-- a year's events from what is left: each leads to states that are there, and no mass is lost -/
structure EvsOk (kk : Nat) (h : Hse) (B : Int) (rest : List (Stt × Rat)) (ev : Stt × Rat → List Ev) : Prop where
  pr : ∀ x ∈ rest, ∀ e ∈ ev x, Pr kk e.2 ∧ 0 < e.2
  sum : ∀ x ∈ rest, sumF (·.2) (ev x) = x.2
  ok : ∀ x ∈ rest, ∀ e ∈ ev x, ¬ e.1.1 < 0 → StOk h e.1 ∧ e.1.1 ≤ B
  len : ∀ x ∈ rest, (ev x).length ≤ 108
def yearF (ev : Stt × Rat → List Ev) (g : Fw) : Fw := (g.2.flatMap ev).foldl evS (g.1, [])
theorem EvsOk.tot {kk : Nat} {h : Hse} {B : Int} {rest : List (Stt × Rat)} {ev : Stt × Rat → List Ev} (e : EvsOk kk h B rest ev) : sumF (·.2) (rest.flatMap ev) = sumF (·.2) rest := by
  rw [sumF_flatMap]
  exact sumF_congr fun x hx => e.sum x hx
structure YearOk (ev : Stt × Rat → List Ev) (g : Fw) : Prop where
  ru : (yearF ev g).1 = g.1 + sumF (fun x => sumF (fun e => if e.1.1 < 0 then e.2 else 0) (ev x)) g.2
  fn : ∀ F : Stt → Rat, sumF (fun x => x.2 * F x.1) (yearF ev g).2 = sumF (fun x => sumF (fun e => if e.1.1 < 0 then 0 else e.2 * F e.1) (ev x)) g.2
theorem year_ok {j kk : Nat} {h : Hse} {B0 B : Int} {g : Fw} {ev : Stt × Rat → List Ev} (r : RestOk j h B0 g) (hj : j ≤ kk) (e : EvsOk kk h B g.2 ev) : YearOk ev g ∧ RestOk kk h B (yearF ev g) := by
  have hev : ∀ x ∈ g.2.flatMap ev, Pr kk x.2 ∧ 0 < x.2 := fun x hx => by
    obtain ⟨y, hy, hx⟩ := List.mem_flatMap.mp hx
    exact e.pr y hy x hx
  have ht := e.tot
  obtain ⟨h1, h2⟩ := ev_run (g.2.flatMap ev) (g := (g.1, [])) (b := sumF (·.2) (g.2.flatMap ev)) (L := []) gt_nil (r.pr.up hj) (by rw [ht]; show g.1 + 0 + _ ≤ 1; rw [Rat.add_zero, r.tot]; exact Rat.le_refl) hev Rat.le_refl
  rw [List.nil_append] at h2
  have Y : YearOk ev g := by
    refine ⟨?_, fun F => ?_⟩
    · rw [← sumF_flatMap]
      exact h1
    · have h3 := h2.sum F
      rw [← sumF_flatMap]
      refine Eq.trans h3 ?_
      rw [sumF_filter]
      refine sumF_congr fun x _ => ?_
      by_cases h0 : x.1.1 < 0
      · simp [h0]
      · simp [h0]
  refine ⟨Y, ?_, h2.nd, h2.pr, fun x hx => ?_, ?_⟩
  · have := EvOk.run (g.2.flatMap ev) (EvOk.start (r.pr.up hj) (b := sumF (·.2) (g.2.flatMap ev)) (by rw [ht, r.tot]; exact Rat.le_refl)) (b' := 0) hev (by rw [Rat.add_zero]; exact Rat.le_refl) Rat.le_refl
    exact this.pr
  · have h4 := (h2.keys x.1).mp (List.mem_map.mpr ⟨x, hx, rfl⟩)
    obtain ⟨y, hy, ey⟩ := List.mem_map.mp h4
    obtain ⟨hy1, hy2⟩ := List.mem_filter.mp hy
    obtain ⟨z, hz, hy3⟩ := List.mem_flatMap.mp hy1
    have := e.ok z hz y hy3 (by simpa using hy2)
    rw [ey] at this
    exact this
  · have h5 := Y.fn fun _ => 1
    have h6 : sumF (fun x : Stt × Rat => x.2 * 1) (yearF ev g).2 = sumF (·.2) (yearF ev g).2 := sum_one _
    rw [h6] at h5
    rw [Y.ru, h5]
    have h7 : g.1 + sumF (fun x => sumF (fun e => if e.1.1 < 0 then e.2 else 0) (ev x)) g.2 + sumF (fun x => sumF (fun e => if e.1.1 < 0 then 0 else e.2 * 1) (ev x)) g.2 = g.1 + sumF (fun x => sumF (·.2) (ev x)) g.2 := by
      have h8 : sumF (fun x => sumF (·.2) (ev x)) g.2 = sumF (fun x => sumF (fun e => if e.1.1 < 0 then e.2 else 0) (ev x) + sumF (fun e => if e.1.1 < 0 then 0 else e.2 * 1) (ev x)) g.2 := by
        refine sumF_congr fun x _ => ?_
        rw [← sumF_add]
        refine sumF_congr fun y _ => ?_
        split
        · rw [Rat.add_zero]
        · rw [Rat.zero_add, Rat.mul_one]
      rw [h8, sumF_add]
      grind
    rw [h7, sumF_congr fun x hx => e.sum x hx]
    exact r.tot
/-! the loops within a year -/
theorem EvOk.at {kk : Nat} {h : Hse} {B : Int} {g : Fw} {ev : Stt × Rat → List Ev} {j : Nat} (r : RestOk j h B g) (hj : j ≤ kk) {B' : Int} (e : EvsOk kk h B' g.2 ev) {k : Nat} {x : Stt × Rat} (hx : g.2[k]? = some x) : EvOk kk (((g.2.take k).flatMap ev).foldl evS (g.1, [])) x.2 (k * 108) := by
  have hev : ∀ y ∈ (g.2.take k).flatMap ev, Pr kk y.2 ∧ 0 < y.2 := fun y hy => by
    obtain ⟨z, hz, hy⟩ := List.mem_flatMap.mp hy
    exact e.pr z ((List.take_sublist k _).subset hz) y hy
  have h1 : sumF (·.2) ((g.2.take k).flatMap ev) = sumF (·.2) (g.2.take k) := by
    rw [sumF_flatMap]
    exact sumF_congr fun z hz => e.sum z ((List.take_sublist k _).subset hz)
  have nn : ∀ y ∈ g.2, 0 ≤ y.2 := fun y hy => (r.tb y hy).1.pos
  have h2 : sumF (·.2) (g.2.take k) + x.2 ≤ sumF (·.2) g.2 := by
    have a := sumF_take_le (f := fun y : Stt × Rat => y.2) nn (k + 1)
    rw [List.take_add_one, hx, sumF_append] at a
    have b : sumF (fun y : Stt × Rat => y.2) (some x).toList = x.2 := by show x.2 + 0 = x.2; rw [Rat.add_zero]
    rw [b] at a
    exact a
  have h3 := EvOk.run ((g.2.take k).flatMap ev) (EvOk.start (r.pr.up hj) (b := sumF (·.2) g.2) (by rw [r.tot]; exact Rat.le_refl)) (b' := x.2) hev (by rw [h1]; exact h2) (nn x (take_mem hx))
  refine h3.less Rat.le_refl ?_
  rw [Nat.zero_add]
  have key : ∀ ys : List (Stt × Rat), (∀ y ∈ ys, (ev y).length ≤ 108) → (ys.flatMap ev).length ≤ ys.length * 108 := by
    intro ys
    induction ys with
    | nil => intro _; simp
    | cons y ys ih =>
      intro hy
      rw [List.flatMap_cons, List.length_append, List.length_cons, Nat.add_mul]
      have := ih fun z hz => hy z (List.mem_cons_of_mem _ hz)
      have := hy y List.mem_cons_self
      omega
  refine Nat.le_trans (key _ fun y hy => e.len y ((List.take_sublist k _).subset hy)) (Nat.mul_le_mul_right _ ?_)
  rw [List.length_take]
  exact Nat.min_le_left _ _
theorem fold_flat {α : Type} (ev : α → List Ev) : ∀ (xs : List α) (g : Fw), (xs.flatMap ev).foldl evS g = xs.foldl (fun g x => (ev x).foldl evS g) g
  | [], _ => rfl
  | x :: xs, g => by rw [List.flatMap_cons, List.foldl_append, List.foldl_cons, fold_flat ev xs]
end LC

namespace LC
open PySem PySem.Spec PyProof.Rows L2 DL
local macro_rules | `(tactic| walk_at "WK") => `(tactic| repeat (first | exact Weak.nil | refine Weak.same ?_ | refine Weak.drop ?_))

/-! ### the program's events -/
def evX (h : Hse) (s : Stt) (m : Rat) (c : Int × Rat) : List Ev := if s.1 + c.1 < 0 then [((s.1 + c.1, 0), m * c.2)] else (tns h s.2.toNat).map fun y => ((s.1 + c.1, y.1), m * c.2 * y.2)
def evP (h : Hse) (pl : Plan) (x : Stt × Rat) : List Ev := (chg h x.1.2.toNat (choose pl x.1)).flatMap (evX h x.1 x.2)
theorem evX_ok {h : Hse} (hh : HseOk h) {s : Stt} (hs : StOk h s) {kk : Nat} {m : Rat} (hm : Pr kk m) (hp : 0 < m) {t : Nat} (ht : t < h.ts.length) {c : Int × Rat} (hc : c ∈ chg h s.2.toNat t) :
    (∀ e ∈ evX h s m c, Pr (kk + 4) e.2 ∧ 0 < e.2) ∧ sumF (·.2) (evX h s m c) = m * c.2 ∧ (∀ e ∈ evX h s m c, ¬ e.1.1 < 0 → StOk h e.1 ∧ e.1.1 ≤ s.1 + 30) ∧ (evX h s m c).length ≤ 4 := by
  have co := chg_ok hh hs.lt ht
  have pc := co.pr c hc
  have to_ := tns_ok hh hs.lt
  have p3 : Pr (kk + 3) (m * c.2) := hm.mul pc.1
  have z3 : 0 < m * c.2 := Rat.mul_pos hp pc.2
  unfold evX
  by_cases h0 : s.1 + c.1 < 0
  · rw [if_pos h0]
    refine ⟨fun e he => ?_, ?_, fun e he h1 => ?_, by simp⟩
    · rw [List.mem_singleton.mp he]
      exact ⟨p3.up (by omega), z3⟩
    · show m * c.2 + 0 = _; rw [Rat.add_zero]
    · rw [List.mem_singleton.mp he] at h1
      exact absurd h0 h1
  · rw [if_neg h0]
    refine ⟨fun e he => ?_, ?_, fun e he h1 => ?_, by rw [List.length_map]; exact to_.len⟩
    · obtain ⟨y, hy, rfl⟩ := List.mem_map.mp he
      have py := to_.sp.pr y hy
      have := p3.mul py.1
      exact ⟨this, Rat.mul_pos z3 py.2⟩
    · rw [sumF_map]
      show sumF (fun y : Int × Rat => m * c.2 * y.2) _ = _
      rw [sumF_mul, to_.sp.tot, Rat.mul_one]
    · obtain ⟨y, hy, rfl⟩ := List.mem_map.mp he
      have := co.val c hc
      exact ⟨next_ok hh hs (by omega) hy, by show s.1 + c.1 ≤ s.1 + 30; omega⟩
theorem evP_ok {h : Hse} (hh : HseOk h) {pl : Plan} (hpl : PlanOk h pl) {kk : Nat} {B : Int} {g : Fw} (r : RestOk kk h B g) : EvsOk (kk + 4) h (B + 30) g.2 (evP h pl) := by
  have hc : ∀ x ∈ g.2, choose pl x.1 < h.ts.length := fun x hx => by
    obtain ⟨_, _, _, _, _, h1⟩ := choose_at hpl (r.ok x hx).1
    exact h1
  refine ⟨fun x hx e he => ?_, fun x hx => ?_, fun x hx e he h0 => ?_, fun x hx => ?_⟩
  · obtain ⟨c, hc', he⟩ := List.mem_flatMap.mp he
    exact (evX_ok hh (r.ok x hx).1 (r.tb x hx).1 (r.tb x hx).2 (hc x hx) hc').1 e he
  · unfold evP
    rw [sumF_flatMap, sumF_congr (g := fun c => x.2 * c.2) fun c hc' => (evX_ok hh (r.ok x hx).1 (r.tb x hx).1 (r.tb x hx).2 (hc x hx) hc').2.1, sumF_mul, (chg_ok hh (r.ok x hx).1.lt (hc x hx)).tot, Rat.mul_one]
  · obtain ⟨c, hc', he⟩ := List.mem_flatMap.mp he
    have h1 := (evX_ok hh (r.ok x hx).1 (r.tb x hx).1 (r.tb x hx).2 (hc x hx) hc').2.2.1 e he h0
    have h2 := (r.ok x hx).2
    exact ⟨h1.1, by have := h1.2; omega⟩
  · have key : ∀ cs : List (Int × Rat), (∀ c ∈ cs, (evX h x.1 x.2 c).length ≤ 4) → (cs.flatMap (evX h x.1 x.2)).length ≤ cs.length * 4 := by
      intro cs
      induction cs with
      | nil => intro _; simp
      | cons c cs ih =>
        intro hy
        rw [List.flatMap_cons, List.length_append, List.length_cons, Nat.add_mul]
        have := ih fun z hz => hy z (List.mem_cons_of_mem _ hz)
        have := hy c List.mem_cons_self
        omega
    have h1 := key _ fun c hc' => (evX_ok hh (r.ok x hx).1 (r.tb x hx).1 (r.tb x hx).2 (hc x hx) hc').2.2.2
    have h2 := (chg_ok hh (r.ok x hx).1.lt (hc x hx)).len
    unfold evP
    omega
def outP (h : Hse) (pl : Plan) (s : Stt) : Nat → Fw
  | 0 => (0, [(s, 1)])
  | k + 1 => yearF (evP h pl) (outP h pl s k)
theorem rest0 {h : Hse} {s : Stt} (hs : StOk h s) : RestOk 0 h s.1 (0, [(s, 1)]) :=
  ⟨Pr.zero, by simp, fun x hx => by rw [List.mem_singleton.mp hx]; exact ⟨Pr.whole, (by decide : (0 : Rat) < 1)⟩, fun x hx => by rw [List.mem_singleton.mp hx]; exact ⟨hs, Int.le_refl _⟩, by show (0 : Rat) + (1 + 0) = 1; rw [Rat.add_zero, Rat.zero_add]⟩
theorem RestOk.up {kk : Nat} {h : Hse} {B B' : Int} {g : Fw} (r : RestOk kk h B g) (hb : B ≤ B') : RestOk kk h B' g := ⟨r.pr, r.nd, r.tb, fun x hx => ⟨(r.ok x hx).1, Int.le_trans (r.ok x hx).2 hb⟩, r.tot⟩
theorem outP_ok {h : Hse} (hh : HseOk h) {pl : Plan} (hpl : PlanOk h pl) {s : Stt} (hs : StOk h s) : ∀ k : Nat, RestOk (4 * k) h (s.1 + 30 * (k : Int)) (outP h pl s k)
  | 0 => by
    have := rest0 hs
    rw [show s.1 + 30 * ((0 : Nat) : Int) = s.1 by omega]
    exact this
  | k + 1 => by
    have r := outP_ok hh hpl hs k
    have := (year_ok r (by omega) (evP_ok hh hpl r)).2
    rw [show s.1 + 30 * ((k + 1 : Nat) : Int) = s.1 + 30 * (k : Int) + 30 by omega]
    exact this
theorem outP_fold (h : Hse) (pl : Plan) (s : Stt) (k : Nat) : (List.range k).foldl (fun g (_ : Nat) => yearF (evP h pl) g) (0, [(s, 1)]) = outP h pl s k := by
  induction k with
  | zero => rfl
  | succ k ih => rw [List.range_succ, List.foldl_append, ih]; rfl
abbrev encTab (t : List (Stt × Rat)) : PyData := .dict (kvE (t.map fun x => (x.1, fr x.2)))
def encF (g : Fw) : PyData := .tuple [fr g.1, .list ((srt (g.2.map (·.1))).map fun z => .tuple [.int z.1, .int z.2, fr ((look g.2 z).getD 0)])]
def rLeast (ds : List PyData) (d : PyData) : Prop := ∃ (h : Hse) (s : Stt) (n : Nat), ds = [encH h, stD s, .int (n : Int)] ∧ HseOk h ∧ StOk h s ∧ s.1 ≤ 100 ∧ n ≤ 10 ∧ d = fr (U h none n s)
def rBestT (ds : List PyData) (d : PyData) : Prop := ∃ (h : Hse) (s : Stt) (n : Nat), ds = [encH h, stD s, .int ((n + 1 : Nat) : Int)] ∧ HseOk h ∧ StOk h s ∧ s.1 ≤ 100 ∧ n + 1 ≤ 10 ∧ d = .int (Ar h none n s : Nat)
def rPlanR (ds : List PyData) (d : PyData) : Prop := ∃ (h : Hse) (pl : Plan) (s : Stt) (n : Nat), ds = [encH h, encP pl, stD s, .int (n : Int)] ∧ HseOk h ∧ PlanOk h pl ∧ StOk h s ∧ s.1 ≤ 100 ∧ n ≤ 10 ∧ d = fr (U h (some pl) n s)
def rOutlook (ds : List PyData) (d : PyData) : Prop := ∃ (h : Hse) (pl : Plan) (s : Stt) (n : Nat), ds = [encH h, encP pl, stD s, .int (n : Int)] ∧ HseOk h ∧ PlanOk h pl ∧ StOk h s ∧ s.1 ≤ 100 ∧ n ≤ 10 ∧ d = encF (outP h pl s n)
section
variable {X : Cx} {D : Ends} {rest : List Stmt} {p C : Addr} {hs pl ch : PyData} {H0 : Hp} {os : List Addr} {rho : List SD} {c : Expr} {pos : Pos}
theorem gb_ifX {k : Bool} {s1 : List Stmt} {n : Int} (hI : SpanAt X.K C H0 (p :: os) p n hs pl ch) (hc : VT X ⟨H0, p :: os, [], rho⟩ c k) (h1 : k = true → ∀ D' : Ends, (∀ Hb, Stp os H0 Hb → (∃ n', SpanAt X.K C Hb os p n' hs pl ch) → GB X ⟨Hb, os, [], rho⟩ [] D') → GB X ⟨H0, p :: os, [], rho⟩ s1 D')
    (hr : ∀ Hb, Stp os H0 Hb → (∃ n', SpanAt X.K C Hb os p n' hs pl ch) → GB X ⟨Hb, os, [], rho⟩ rest D) : GB X ⟨H0, p :: os, [], rho⟩ (.If c s1 [] pos :: rest) D :=
  gb_if hc (fun z => h1 z _ fun Hb hb hi => gb_thn rfl (hr Hb hb hi)) fun _ => gb_thn rfl (gb_unown hI hr)
end
section
variable {P : Program} {w : World} {K : PySem.W.Frag} {mg : Str → Option Value} {base : Heap}
theorem df_least_ruin (T : Tx K mg) : DF P w K mg base "least_ruin" 10 rLeast := by
  obtain ⟨C, TC⟩ := T.sp
  obtain ⟨f, fd, hm, F⟩ := T.g_least_ruin
  refine df_mk hm F sc_least_ruin (bind3 F) (fun ds d h => by obtain ⟨h, s, n, rfl, _⟩ := h; rfl) fun cdv A outer s H E os ds d hr h => ?_
  obtain ⟨h, st, n, rfl, hh, hs, hr100, hn, rfl⟩ := h
  refine gb_expr (ve_call ((df_check_state T).up (by decide : 1 ≤ 9)) hr (va_cons (ve_var 0 rfl) (va_cons (ve_var 1 rfl) (va_cons (ve_var 2 rfl) (va_cons ve_int va_nil)))) ⟨h, st, n, 0, rfl, hs, by omega, by omega, by omega, rfl⟩) ?_
  cases n with
  | zero =>
    refine gb_if (vt_eq (k' := true) (vt_eqI (ve_var 2 rfl) ve_int) rfl) (fun _ => ?_) fun z => nomatch z
    exact gb_ret (ve_none (K := K) T)
  | succ n =>
    refine gb_ifNo (vt_eq (vt_eqI (ve_var 2 rfl) ve_int) (by simp; omega)) ?_
    exact gb_ret (ve_ixT (ve_spanCall (di_span T TC) hr (va_cons (ve_var 0 rfl) (va_cons ve_non va_nil)) ⟨h, none, rfl, rfl, rfl, hh⟩ (dx_ruin T TC) (hr.mono (by decide : 5 ≤ 9)) TC.cls (fun Hb p => va_cons (ve_var 1 rfl) (va_cons (ve_var 2 rfl) va_nil)) ⟨h, none, st, n, ⟨rfl, rfl, rfl, hh, trivial⟩, rfl, rfl, hs, hr100, hn, rfl⟩) ve_int rfl)
theorem df_best_treaty (T : Tx K mg) : DF P w K mg base "best_treaty" 10 rBestT := by
  obtain ⟨C, TC⟩ := T.sp
  obtain ⟨f, fd, hm, F⟩ := T.g_best_treaty
  refine df_mk hm F sc_best_treaty (bind3 F) (fun ds d h => by obtain ⟨h, s, n, rfl, _⟩ := h; rfl) fun cdv A outer s H E os ds d hr h => ?_
  obtain ⟨h, st, n, rfl, hh, hs, hr100, hn, rfl⟩ := h
  refine gb_expr (ve_call ((df_check_state T).up (by decide : 1 ≤ 9)) hr (va_cons (ve_var 0 rfl) (va_cons (ve_var 1 rfl) (va_cons (ve_var 2 rfl) (va_cons ve_int va_nil)))) ⟨h, st, n + 1, 1, rfl, hs, by omega, by omega, by omega, rfl⟩) ?_
  exact gb_ret (ve_ixT (ve_spanCall (di_span T TC) hr (va_cons (ve_var 0 rfl) (va_cons ve_non va_nil)) ⟨h, none, rfl, rfl, rfl, hh⟩ (dx_ruin T TC) (hr.mono (by decide : 5 ≤ 9)) TC.cls (fun Hb p => va_cons (ve_var 1 rfl) (va_cons (ve_var 2 rfl) va_nil)) ⟨h, none, st, n, ⟨rfl, rfl, rfl, hh, trivial⟩, rfl, rfl, hs, hr100, hn, rfl⟩) ve_int rfl)
theorem df_plan_ruin (T : Tx K mg) : DF P w K mg base "plan_ruin" 10 rPlanR := by
  obtain ⟨C, TC⟩ := T.sp
  obtain ⟨f, fd, hm, F⟩ := T.g_plan_ruin
  refine df_mk hm F sc_plan_ruin (bind4 F) (fun ds d h => by obtain ⟨h, pl, s, n, rfl, _⟩ := h; rfl) fun cdv A outer s H E os ds d hr h => ?_
  obtain ⟨h, pl, st, n, rfl, hh, hpl, hs, hr100, hn, rfl⟩ := h
  refine gb_expr (ve_call ((df_check_state T).up (by decide : 1 ≤ 9)) hr (va_cons (ve_var 0 rfl) (va_cons (ve_var 2 rfl) (va_cons (ve_var 3 rfl) (va_cons ve_int va_nil)))) ⟨h, st, n, 0, rfl, hs, by omega, by omega, by omega, rfl⟩) ?_
  cases n with
  | zero =>
    refine gb_if (vt_eq (k' := true) (vt_eqI (ve_var 3 rfl) ve_int) rfl) (fun _ => ?_) fun z => nomatch z
    exact gb_ret (ve_none (K := K) T)
  | succ n =>
    refine gb_ifNo (vt_eq (vt_eqI (ve_var 3 rfl) ve_int) (by simp; omega)) ?_
    exact gb_ret (ve_ixT (ve_spanCall (di_span T TC) hr (va_cons (ve_var 0 rfl) (va_cons (ve_var 1 rfl) va_nil)) ⟨h, some pl, rfl, rfl, rfl, hh⟩ (dx_ruin T TC) (hr.mono (by decide : 5 ≤ 9)) TC.cls (fun Hb p => va_cons (ve_var 2 rfl) (va_cons (ve_var 3 rfl) va_nil)) ⟨h, some pl, st, n, ⟨rfl, rfl, rfl, hh, hpl⟩, rfl, rfl, hs, hr100, hn, rfl⟩) ve_int rfl)
theorem df_outlook (T : Tx K mg) : DF P w K mg base "outlook" 10 rOutlook := by
  obtain ⟨C, TC⟩ := T.sp
  obtain ⟨f, fd, hm, F⟩ := T.g_outlook
  refine df_mk hm F sc_outlook (bind4 F) (fun ds d h => by obtain ⟨h, pl, s, n, rfl, _⟩ := h; rfl) fun cdv A outer s H E os ds d hr h => ?_
  obtain ⟨h, pl, st, n, rfl, hh, hpl, hs, hr100, hn, rfl⟩ := h
  refine gb_expr (ve_call ((df_check_state T).up (by decide : 1 ≤ 9)) hr (va_cons (ve_var 0 rfl) (va_cons (ve_var 2 rfl) (va_cons (ve_var 3 rfl) (va_cons ve_int va_nil)))) ⟨h, st, n, 0, rfl, hs, by omega, by omega, by omega, rfl⟩) ?_
  refine gb_span 4 (di_span T TC) hr (va_cons (ve_var 0 rfl) (va_cons (ve_var 1 rfl) va_nil)) ⟨h, some pl, rfl, rfl, rfl, hh⟩ (fun Hb p hb hpo hsp => ?_) sc_outlook.nd
  refine gb_ifX (n := 0) hsp (vt_gt (ve_var 3 rfl) ve_int) (fun z D' hD' => ?_) fun Hb2 hb2 hI2 => ?_
  · have hn0 : 1 ≤ n := by have := of_decide_eq_true z; omega
    exact gb_exprX ((dx_layers T TC).up (by decide : 4 ≤ 9)) hr (vv_var 4 rfl) hsp hpo TC.cls (va_cons (ve_var 2 rfl) (va_cons (ve_var 3 rfl) va_nil)) ⟨h, some pl, st, n, ⟨rfl, rfl, rfl, hh, hpl⟩, rfl, rfl, hs, hr100, hn0, hn, rfl⟩ hD'
  have hI : SpIn K C ⟨Hb2, os, [], []⟩ p (encH h) (encP pl) (encCh h) := hI2
  refine gb_set 5 (ve_none (K := K) T) ?_ sc_outlook.nd
  refine gb_set 6 (ve_disp1 (k := st) (d := fr 1) hr.units0 (fun q => ve_var 2 rfl) fun q => ve_whole T) ?_ sc_outlook.nd
  refine gb_foldR n 7 (fun g (_ : Nat) => yearF (evP h pl) g) ((0, [(st, 1)]) : Fw) (fun _ => []) (fun g => [.dat (encH h), .dat (encP pl), .dat (stD st), .dat (.int n), .val (.ref p), .dat (fr g.1), .dat (encTab g.2), .any, .any, .any, .any, .any, .any, .any, .any, .any, .any, .any]) T.b_range (by omega) (ve_var 3 rfl)
    (tg_nm sc_outlook.nd) ⟨rfl, by walk_at "WK"⟩ (fun k hk => ?_) ?_ rfl
  · rw [outP_fold]
    have r := outP_ok hh hpl hs k
    generalize outP h pl st k = g at r
    have eo := evP_ok hh hpl r
    have rl : g.2.length ≤ 1604 := (r.up (B' := ((400 : Nat) : Int)) (by omega)).len hh
    obtain ⟨ru, rest⟩ := g
    refine gb_newT 8 (fun q => ?_) sc_outlook.nd
    refine gb_forD 9 (fun j (g : Fw) => g = ((rest.take j).flatMap (evP h pl)).foldl evS (ru, [])) (fun g => [(q, .mT (g.2.map fun x => (x.1, fr x.2)))]) (fun g => [.dat (encH h), .dat (encP pl), .dat (stD st), .dat (.int n), .val (.ref p), .dat (fr g.1), .dat (encTab rest), .any, .val (.ref q), .any, .any, .any, .any, .any, .any, .any, .any, .any])
      (l := rest.map fun x => (x.1, fr x.2)) (ve_var 6 rfl) (tg_nm sc_outlook.nd) ⟨(ru, []), rfl, rfl, by walk_at "WK"⟩ (fun Hb3 hb3 j z dz g0 hz hg0 => ?_) (fun g hg => ?_) rfl
    · have hz2 : ∃ m, rest[j]? = some (z, m) := by
        rw [List.getElem?_map] at hz
        cases e : rest[j]? with
        | none => rw [e] at hz; cases hz
        | some u => rw [e] at hz; cases hz; exact ⟨u.2, rfl⟩
      obtain ⟨m, hz2⟩ := hz2
      have hzm := take_mem hz2
      have hzo : StOk h z := (r.ok _ hzm).1
      have pm : Pr (4 * k) m ∧ 0 < m := r.tb _ hzm
      have rl : rest.length ≤ 1604 := rl
      have hjl := (List.getElem?_eq_some_iff.mp hz2).1
      have eo1 : EvOk (4 * k + 4) g0 m (j * 108) := by rw [hg0]; exact EvOk.at r (by omega) eo hz2
      have hg1 : ((rest.take (j + 1)).flatMap (evP h pl)).foldl evS (ru, []) = (evP h pl (z, m)).foldl evS g0 := by
        rw [List.take_add_one, hz2, List.flatMap_append, List.foldl_append, ← hg0]
        show ([(z, m)].flatMap (evP h pl)).foldl evS g0 = _
        rw [List.flatMap_cons, List.flatMap_nil, List.append_nil]
      obtain ⟨row, _, i0, _, _, hct⟩ := choose_at hpl hzo
      have hct : choose pl z < h.ts.length := hct
      have co : ChgOk (chg h z.2.toNat (choose pl z)) := chg_ok hh hzo.lt hct
      have col := co.len
      refine gb_unpack (.two 10 11) (tg_two rfl sc_outlook.nd) (ve_var 9 rfl) rfl ?_
      refine gb_fold (.two 12 13) (chg h z.2.toNat (choose pl z)) encI (fun g c => (evX h z m c).foldl evS g) g0 (fun g => [(q, .mT (g.2.map fun x => (x.1, fr x.2)))]) (fun g => [.dat (encH h), .dat (encP pl), .dat (stD st), .dat (.int n), .val (.ref p), .dat (fr g.1), .dat (encTab rest), .any, .val (.ref q), .dat (stD z), .dat (.int z.1), .dat (.int z.2), .any, .any, .any, .any, .any, .any])
        (ve_chgs (ve_changes (vv_var 4 rfl) (hI.stp hb3) TC.cls TC.n_changes) (ve_var 11 rfl) (ve_call ((df_chosen T).up (by decide : 1 ≤ 9)) hr (va_cons (ve_var 1 rfl) (va_cons (ve_var 9 rfl) va_nil)) ⟨h, pl, z, rfl, hpl, hzo, rfl⟩) hzo hct) (tg_two rfl sc_outlook.nd) ⟨rfl, by walk_at "WK"⟩ (fun Hb4 hb4 i c hi => ⟨_, rfl, ?_⟩) ?_ rfl
      · have hc := take_mem hi
        have hil := (List.getElem?_eq_some_iff.mp hi).1
        have pc := co.pr c hc
        have ex := evX_ok hh hzo pm.1 pm.2 hct hc
        have eo2 : EvOk (4 * k + 4) (((chg h z.2.toNat (choose pl z)).take i).foldl (fun g c => (evX h z m c).foldl evS g) g0) (m * c.2) (j * 108 + i * 4) := by
          rw [← fold_flat]
          have all : ∀ c' ∈ (chg h z.2.toNat (choose pl z)).take i, c' ∈ chg h z.2.toNat (choose pl z) := fun c' hc' => (List.take_sublist i _).subset hc'
          have s1 : sumF (·.2) (((chg h z.2.toNat (choose pl z)).take i).flatMap (evX h z m)) = m * sumF (·.2) ((chg h z.2.toNat (choose pl z)).take i) := by
            rw [sumF_flatMap, sumF_congr (g := fun c => m * c.2) fun c' hc' => (evX_ok hh hzo pm.1 pm.2 hct (all c' hc')).2.1, sumF_mul]
          have s2 : sumF (·.2) ((chg h z.2.toNat (choose pl z)).take i) + c.2 ≤ 1 := sum_take hi (fun y hy => (co.pr y hy).1.pos) (by rw [co.tot]; exact Rat.le_refl)
          have s3 : m * (sumF (·.2) ((chg h z.2.toNat (choose pl z)).take i) + c.2) ≤ m * 1 := Rat.mul_le_mul_of_nonneg_left s2 pm.1.pos
          refine (EvOk.run _ eo1 (b' := m * c.2) (fun e he => ?_) (by rw [s1]; grind) (Rat.mul_nonneg pm.1.pos pc.1.pos)).less Rat.le_refl ?_
          · obtain ⟨c', hc', he⟩ := List.mem_flatMap.mp he
            exact (evX_ok hh hzo pm.1 pm.2 hct (all c' hc')).1 e he
          · have key : ∀ cs : List (Int × Rat), (∀ c' ∈ cs, c' ∈ chg h z.2.toNat (choose pl z)) → (cs.flatMap (evX h z m)).length ≤ cs.length * 4 := by
              intro cs
              induction cs with
              | nil => intro _; simp
              | cons c' cs ih =>
                intro hy
                rw [List.flatMap_cons, List.length_append, List.length_cons, Nat.add_mul]
                have := ih fun z hz => hy z (List.mem_cons_of_mem _ hz)
                have h9 : (evX h z m c').length ≤ 4 := (evX_ok hh hzo pm.1 pm.2 hct (hy c' List.mem_cons_self)).2.2.2
                omega
            have h1 := key _ all
            rw [List.length_take] at h1
            omega
        generalize ((chg h z.2.toNat (choose pl z)).take i).foldl (fun g c => (evX h z m c).foldl evS g) g0 = g1 at eo2
        have hmc : Pr (4 * k + 3) (m * c.2) := pm.1.mul pc.1
        refine gb_set 14 (ve_call ((df_times T).up (by decide : 2 ≤ 9)) hr (va_cons (ve_dget (k := z) (d := fr m) (hu_of hr) (ve_var 6 rfl) (ve_var 9 rfl) ?_) (va_cons (ve_var 13 rfl) va_nil)) ⟨m, c.2, rfl, pm.1.sm (by omega), pc.1.sm (by decide), rfl⟩) ?_ sc_outlook.nd
        · rw [look_map, r.mem hzm]; rfl
        by_cases h0 : z.1 + c.1 < 0
        · have exx : evX h z m c = [((z.1 + c.1, 0), m * c.2)] := if_pos h0
          have er := eo2.ruin (e := ((z.1 + c.1, 0), m * c.2)) (b' := 0) (hmc.up (by omega)) (by show m * c.2 + 0 ≤ _; rw [Rat.add_zero]; exact Rat.le_refl) Rat.le_refl h0
          refine gb_if (vt_eq (vt_lt (ve_add (ve_var 10 rfl) (ve_var 12 rfl)) ve_int) (decide_eq_true h0)) (fun _ => ?_) fun z => nomatch z
          rw [exx]
          show GB _ _ _ { nx := _, rt := _, bk := _, ct := _ }
          refine gb_set 5 (ve_call ((df_plus T).up (by decide : 2 ≤ 9)) hr (va_cons (ve_var 5 rfl) (va_cons (ve_var 14 rfl) va_nil)) ⟨g1.1, m * c.2, rfl, eo2.pr.sm (by omega), hmc.sm (by omega), rfl⟩) (gb_thn rfl ?_) sc_outlook.nd
          have e1 : [((z.1 + c.1, (0 : Int)), m * c.2)].foldl evS g1 = (g1.1 + m * c.2, g1.2) := er.1
          rw [e1]
          exact gb_finM rfl rfl (by walk_at "WK")
        · have exx : evX h z m c = (tns h z.2.toNat).map fun y => ((z.1 + c.1, y.1), m * c.2 * y.2) := if_neg h0
          refine gb_if (vt_eq (vt_lt (ve_add (ve_var 10 rfl) (ve_var 12 rfl)) ve_int) (decide_eq_false h0)) (fun z => nomatch z) fun _ => ?_
          have to_ := tns_ok hh hzo.lt
          refine gb_fold (.two 15 16) (tns h z.2.toNat) encI (fun g y => evS g ((z.1 + c.1, y.1), m * c.2 * y.2)) g1 (fun g => [(q, .mT (g.2.map fun x => (x.1, fr x.2)))]) (fun g => [.dat (encH h), .dat (encP pl), .dat (stD st), .dat (.int n), .val (.ref p), .dat (fr g.1), .dat (encTab rest), .any, .val (.ref q), .dat (stD z), .dat (.int z.1), .dat (.int z.2), .dat (.int c.1), .dat (fr c.2), .dat (fr (m * c.2)), .any, .any, .any])
            (ve_turns (ve_var 0 rfl) (ve_var 11 rfl) hzo) (tg_two rfl sc_outlook.nd) ⟨rfl, by walk_at "WK"⟩ (fun Hb5 hb5 i2 y hi2 => ⟨_, rfl, ?_⟩) ?_ rfl
          · have hy := take_mem hi2
            have hil2 := (List.getElem?_eq_some_iff.mp hi2).1
            have py := to_.sp.pr y hy
            have hmy : Pr (4 * k + 4) (m * c.2 * y.2) := hmc.mul py.1
            have zmc : 0 < m * c.2 := Rat.mul_pos pm.2 pc.2
            have eo3 : EvOk (4 * k + 4) (((tns h z.2.toNat).take i2).foldl (fun g y => evS g ((z.1 + c.1, y.1), m * c.2 * y.2)) g1) (m * c.2 * y.2) (j * 108 + i * 4 + i2) := by
              have e3 : ((tns h z.2.toNat).take i2).foldl (fun g y => evS g ((z.1 + c.1, y.1), m * c.2 * y.2)) g1 = (((tns h z.2.toNat).take i2).map fun y => (((z.1 + c.1, y.1), m * c.2 * y.2) : Ev)).foldl evS g1 := by rw [List.foldl_map]
              rw [e3]
              have s2 : sumF (·.2) ((tns h z.2.toNat).take i2) + y.2 ≤ 1 := sum_take hi2 (fun y hy => (to_.sp.pr y hy).1.pos) (by rw [to_.sp.tot]; exact Rat.le_refl)
              have s3 : m * c.2 * (sumF (·.2) ((tns h z.2.toNat).take i2) + y.2) ≤ m * c.2 * 1 := Rat.mul_le_mul_of_nonneg_left s2 hmc.pos
              refine (EvOk.run _ eo2 (b' := m * c.2 * y.2) (fun e he => ?_) ?_ hmy.pos).less Rat.le_refl ?_
              · obtain ⟨y', hy', rfl⟩ := List.mem_map.mp he
                have py' := to_.sp.pr y' ((List.take_sublist i2 _).subset hy')
                exact ⟨hmc.mul py'.1, Rat.mul_pos zmc py'.2⟩
              · rw [sumF_map]
                show sumF (fun y : Int × Rat => m * c.2 * y.2) _ + _ ≤ _
                rw [sumF_mul]
                grind
              · rw [List.length_map, List.length_take]
                omega
            generalize ((tns h z.2.toNat).take i2).foldl (fun g y => evS g ((z.1 + c.1, y.1), m * c.2 * y.2)) g1 = g2 at eo3
            obtain ⟨l1, l2, l3⟩ := eo3.live (e := ((z.1 + c.1, y.1), m * c.2 * y.2)) (b' := 0) hmy (Rat.mul_pos zmc py.2) (by show m * c.2 * y.2 + 0 ≤ _; rw [Rat.add_zero]; exact Rat.le_refl) Rat.le_refl h0
            rw [l1]
            refine gb_set 17 (ve_tupK (i := z.1 + c.1) (j := y.1) (va_cons (ve_add (ve_var 10 rfl) (ve_var 12 rfl)) (va_cons (ve_var 15 rfl) va_nil))) ?_ sc_outlook.nd
            refine gb_dputT 8 0 (k := (z.1 + c.1, y.1)) (hu_of hr) rfl rfl (ve_var 17 rfl) (ve_call ((df_plus T).up (by decide : 2 ≤ 9)) hr (va_cons (ve_eq (ve_dgetT (k := (z.1 + c.1, y.1)) 8 0 (hu_of hr) rfl rfl (ve_var 17 rfl) (ve_none (K := K) T)) (look_mapD fr (z.1 + c.1, y.1) _)) (va_cons (ve_call ((df_times T).up (by decide : 2 ≤ 9)) hr (va_cons (ve_var 14 rfl) (va_cons (ve_var 16 rfl) va_nil)) ⟨m * c.2, y.2, rfl, hmc.sm (by omega), py.1.sm (by decide), rfl⟩) va_nil))
              ⟨_, m * c.2 * y.2, rfl, l3.sm (by omega), hmy.sm (by omega), rfl⟩) ?_ ?_
            · rw [List.length_map]
              have h7 := eo3.len
              have h8 := to_.len
              omega
            · refine gb_finM rfl ?_ (by walk_at "WK")
              show [(q, MO.mT (put _ _ _))] = [(q, MO.mT _)]
              rw [put_map]
              rfl
          · refine gb_thn rfl ?_
            have e4 : (evX h z m c).foldl evS g1 = (tns h z.2.toNat).foldl (fun g y => evS g ((z.1 + c.1, y.1), m * c.2 * y.2)) g1 := by rw [exx, List.foldl_map]
            rw [e4]
            exact gb_finM rfl rfl (by walk_at "WK")
      · have e5 : (chg h z.2.toNat (choose pl z)).foldl (fun g c => (evX h z m c).foldl evS g) g0 = ((rest.take (j + 1)).flatMap (evP h pl)).foldl evS (ru, []) := by
          rw [hg1]
          exact (fold_flat _ _ _).symm
        rw [e5]
        exact gb_nil fun σ H s => ⟨_, rfl, s.weak (by walk_at "WK")⟩
    · rw [List.length_map, List.take_length] at hg
      have e6 : g = yearF (evP h pl) (ru, rest) := hg
      rw [← e6]
      refine gb_frz 8 0 rfl rfl rfl ?_
      refine gb_set 6 (ve_var 8 rfl) ?_ sc_outlook.nd
      exact gb_fin rfl (by walk_at "WK")
  · rw [outP_fold]
    have r := outP_ok hh hpl hs n
    have rl : (outP h pl st n).2.length ≤ 1604 := (r.up (B' := ((400 : Nat) : Int)) (by omega)).len hh
    generalize outP h pl st n = g at r rl
    obtain ⟨ru, rest⟩ := g
    have e1 : (rest.map fun x => (x.1, fr x.2)).map (·.1) = rest.map (·.1) := by rw [List.map_map]; rfl
    refine gb_ret (ve_eq (ve_tup (va_cons (ve_var 5 rfl) (va_cons (ve_lc (.two 10 11) (srt (rest.map (·.1))) stD (fun _ => true) (fun z => .tuple [.int z.1, .int z.2, fr ((look rest z).getD 0)]) (ve_eq (ve_sortedT (l := rest.map fun x => (x.1, fr x.2)) rfl T.b_sorted (ve_var 6 rfl)) (by rw [e1])) (blkOk_by (own := [("reserve", 10), ("weather", 11)]) rfl) (fun _ _ _ _ _ => tg_two rfl sc_outlook.nd) ?_ ?_ rfl sc_outlook.nd (by decide)) va_nil))) ?_) fun v H' z i => ⟨hb.trans (hb2.trans z), i⟩
    · intro Hb3 Da acc j z hst hz
      have hz1 := (srt_perm _).subset (take_mem hz)
      obtain ⟨x, hx, rfl⟩ := List.mem_map.mp hz1
      have lx := r.mem hx
      refine ⟨_, rfl, fun _ _ _ _ _ => vts_nil, fun _ _ _ _ _ _ => ve_eq (ve_tup (va_cons (ve_var 10 rfl) (va_cons (ve_var 11 rfl) (va_cons (ve_dget (k := x.1) (d := fr x.2) (hu_of hr) (ve_var 6 rfl) (ve_tupK (i := x.1.1) (j := x.1.2) (va_cons (ve_var 10 rfl) (va_cons (ve_var 11 rfl) va_nil))) ?_) va_nil)))) ?_⟩
      · rw [look_map, lx]; rfl
      · show _ = PyData.tuple [.int x.1.1, .int x.1.2, fr ((look rest x.1).getD 0)]
        rw [lx]
        rfl
    · rw [(srt_perm _).length_eq, List.length_map]
      have rl : rest.length ≤ 1604 := rl
      omega
    · rw [List.filter_eq_self.mpr (fun _ _ => rfl)]
      rfl
end
end LC

namespace LC
open PySem PySem.Spec PyProof.Rows L2 DL
local macro_rules | `(tactic| walk_at "WK") => `(tactic| repeat (first | exact Weak.nil | refine Weak.same ?_ | refine Weak.drop ?_))

/-! ### the law's own defs: cells, digits, fractions, spreads -/
def cellOf (ns : List Int) (k : Nat) : Nat := match ns[k]? with
  | some v => v.natAbs
  | none => 0
def rCell (ds : List PyData) (d : PyData) : Prop := ∃ (ns : List Int) (k : Nat), ds = [.list (ns.map .int), .int (k : Int)] ∧ d = .int (cellOf ns k : Nat)
def pDig (ds : List PyData) : Prop := ∃ (c b m : Nat), ds = [.int (c : Int), .int (b : Int), .int (m : Int)] ∧ 0 < b ∧ b < 1000000 ∧ m ≤ 20
/-- m digits below b -/
structure Digs (b m : Nat) (ns : List Nat) : Prop where
  len : ns.length = m
  lt : ∀ n ∈ ns, n < b
abbrev encN (ns : List Nat) : PyData := .list (ns.map fun (n : Nat) => PyData.int (n : Int))
def qDig (ds : List PyData) (d : PyData) : Prop := ∀ (c b m : Nat), ds = [.int (c : Int), .int (b : Int), .int (m : Int)] → ∃ ns : List Nat, Digs b m ns ∧ d = encN ns
def rLFr (ds : List PyData) (d : PyData) : Prop := ∃ (n : Int) (m : Nat), ds = [.int n, .int (m : Int)] ∧ 0 < m ∧ m < 2 ^ 1900 ∧ d = fr (mkRat n m)
theorem Sm.mul3 {p q : Rat} (hp : Sm p) (hq : Sm q) : p.den * q.den < 2 ^ 1900 := by
  have h1 := hp.den
  have h2 := hq.den
  rw [big_eq] at h1 h2
  have h3 : p.den * q.den < 2 ^ 900 * 2 ^ 900 := Nat.mul_lt_mul'' h1 h2
  rw [← Nat.pow_add] at h3
  exact Nat.lt_of_lt_of_le h3 (Nat.pow_le_pow_right (by decide) (by decide))
def bigE : Nat := 2 ^ 3800
theorem bigE_eq : bigE = 2 ^ 3800 := rfl
/-- Euclid's steps -/
structure Euc (t l : Nat) (k : Nat) (g : Nat × Nat) : Prop where
  gcd : Nat.gcd g.1 g.2 = Nat.gcd t l
  le : k = 0 → g = (t, l)
  dn : ∀ j, k = j + 1 → g.2 < g.1 ∧ g.1 ≤ l ∧ g.1 * g.2 * 2 ^ j < bigE
theorem euc_step {t l k : Nat} {g : Nat × Nat} (hl : l * l < bigE) (h : Euc t l k g) (hb : g.2 ≠ 0) : Euc t l (k + 1) (g.2, g.1 % g.2) := by
  obtain ⟨a, b⟩ := g
  have hb' : b ≠ 0 := hb
  have hm : a % b < b := Nat.mod_lt _ (by omega)
  refine ⟨?_, fun z => by omega, fun j hj => ?_⟩
  · rw [← h.gcd]
    show Nat.gcd b (a % b) = Nat.gcd a b
    rw [Nat.gcd_comm a b, Nat.gcd_rec b a, Nat.gcd_comm]
  · have hj : j = k := by omega
    subst hj
    cases j with
    | zero =>
      have := h.le rfl
      injection this with h1 h2
      have h1 : a = t := h1
      have h2 : b = l := h2
      subst h1 h2
      refine ⟨hm, Nat.le_refl _, ?_⟩
      show b * (a % b) * 2 ^ 0 < bigE
      rw [Nat.pow_zero, Nat.mul_one]
      exact Nat.lt_of_le_of_lt (Nat.mul_le_mul_left _ (by omega)) hl
    | succ j =>
      obtain ⟨h1, h2, h3⟩ := h.dn j rfl
      have h1 : b < a := h1
      have h2 : a ≤ l := h2
      have h3 : a * b * 2 ^ j < bigE := h3
      refine ⟨hm, by show b ≤ l; omega, ?_⟩
      show b * (a % b) * 2 ^ (j + 1) < bigE
      have h4 : 2 * (a % b) ≤ a := by
        have h5 := Nat.div_add_mod a b
        have h6 : 1 ≤ a / b := (Nat.le_div_iff_mul_le (by omega)).mpr (by omega)
        have h7 : b ≤ b * (a / b) := Nat.le_mul_of_pos_right _ h6
        omega
      have h8 : b * (a % b) * 2 ^ (j + 1) = b * (2 * (a % b)) * 2 ^ j := by
        rw [Nat.pow_succ]
        ac_rfl
      rw [h8]
      refine Nat.lt_of_le_of_lt (Nat.mul_le_mul_right _ (Nat.mul_le_mul_left b h4)) ?_
      rw [Nat.mul_comm b a]
      exact h3
theorem euc_end {t l : Nat} {g : Nat × Nat} (h : Euc t l 4000 g) : g.2 = 0 := by
  obtain ⟨h1, h2, h3⟩ := h.dn 3999 rfl
  by_cases e : g.2 = 0
  · exact e
  · have h4 : 1 ≤ g.1 * g.2 := Nat.mul_pos (by omega) (by omega)
    have h5 : 2 ^ 3999 ≤ g.1 * g.2 * 2 ^ 3999 := Nat.le_mul_of_pos_left _ h4
    have h6 : bigE ≤ 2 ^ 3999 := Nat.pow_le_pow_right (by decide) (by decide)
    exact absurd (Nat.lt_of_lt_of_le h3 (Nat.le_trans h6 h5)) (Nat.lt_irrefl _)
theorem Euc.zero {t l k : Nat} {g : Nat × Nat} (h : Euc t l k g) (e : g.2 = 0) : g.1 = Nat.gcd t l := by
  rw [← h.gcd, e, Nat.gcd_zero_right]
theorem gb_brkTo {X : Cx} {S : SS} {D D0 : Ends} {r rest : List Stmt} {pos : Pos} (e : D.bk = RUN X rest D0) (h : GB X S rest D0) : GB X S (.Break pos :: r) D := gb_break fun σ H s => by rw [e]; exact h σ H s
section
variable {P : Program} {w : World} {K : PySem.W.Frag} {mg : Str → Option Value} {base : Heap}
theorem df_law_cell (T : Tx K mg) : DF P w K mg base "_law_cell" 1 rCell := by
  obtain ⟨f, fd, hm, F⟩ := T.g_law_cell
  refine df_mk hm F sc_law_cell (bind2 F) (fun ds d h => by obtain ⟨n, k, rfl, _⟩ := h; rfl) fun cdv A outer s H E os ds d hr h => ?_
  obtain ⟨ns, k, rfl, rfl⟩ := h
  by_cases hk : k < ns.length
  · refine gb_if (vt_eq (k' := true) (vt_lt (ve_var 1 rfl) (ve_len T.b_len (ve_var 0 rfl))) (by simp; exact hk)) (fun _ => ?_) fun z => nomatch z
    have e : ns[k]? = some ns[k] := List.getElem?_eq_getElem hk
    refine gb_ret (ve_eq (ve_abs T.b_abs (ve_intI T.b_int (ve_ixL (d := .int ns[k]) (ve_var 0 rfl) (ve_var 1 rfl) (atI_nat (by rw [List.getElem?_map, e]; rfl))))) ?_)
    unfold cellOf
    rw [e]
    show PyData.int _ = PyData.int _
    congr 1
    show (if ns[k] < 0 then -ns[k] else ns[k]) = (ns[k].natAbs : Int)
    split <;> omega
  · refine gb_ifNo (vt_eq (vt_lt (ve_var 1 rfl) (ve_len T.b_len (ve_var 0 rfl))) (by simp; omega)) ?_
    refine gb_ret (ve_eq ve_int ?_)
    unfold cellOf
    rw [List.getElem?_eq_none (by omega)]
    rfl
theorem df_law_fraction (T : Tx K mg) : DF P w K mg base "_law_fraction" 1 rLFr := by
  obtain ⟨f, fd, hm, F⟩ := T.g_law_fraction
  refine df_mk hm F sc_law_fraction (bind2 F) (fun ds d h => by obtain ⟨n, k, rfl, _⟩ := h; rfl) fun cdv A outer s H E os ds d hr h => ?_
  obtain ⟨n, m, rfl, h0, h1, rfl⟩ := h
  refine gb_set 2 (ve_eq (ve_abs T.b_abs (ve_var 0 rfl)) (d := .int (n.natAbs : Int)) (by congr 1; split <;> omega)) ?_ sc_law_fraction.nd
  refine gb_set 3 (ve_var 1 rfl) ?_ sc_law_fraction.nd
  have hl : m * m < bigE := by
    rw [bigE_eq, show (3800 : Nat) = 1900 + 1900 by rfl, Nat.pow_add]
    exact Nat.mul_lt_mul'' h1 h1
  have fin : ∀ {H0 : Hp} {a : Nat} {x y : SD} {rest : List Stmt}, True := fun {_ _ _ _ _} => trivial
  have ga : ∀ a : Nat, a = Nat.gcd n.natAbs m → 0 < a ∧ CDivW n (a : Int) := fun a e => by
    subst e
    exact ⟨Nat.gcd_pos_of_pos_right _ h0, gcd_log h0 (Nat.lt_trans h1 (Nat.pow_lt_pow_right (by decide) (by decide)))⟩
  refine gb_range 4000 4 (Euc n.natAbs m) (fun _ => []) (fun g => [.dat (.int n), .dat (.int m), .dat (.int (g.1 : Int)), .dat (.int (g.2 : Int)), .any]) T.b_range (by decide) ve_int (tg_nm sc_law_fraction.nd) ⟨(n.natAbs, m), ⟨rfl, fun _ => rfl, fun j hj => nomatch hj⟩, rfl, by walk_at "WK"⟩ (fun k g hk hg => ?_) (fun g hg => ?_) rfl
  · obtain ⟨a, b⟩ := g
    by_cases hb : b = 0
    · subst hb
      refine gb_if (vt_eq (k' := true) (vt_eqI (ve_var 3 rfl) ve_int) rfl) (fun _ => ?_) fun z => nomatch z
      refine gb_brkTo rfl ?_
      have e := hg.zero rfl
      obtain ⟨p1, p2⟩ := ga a e
      refine gb_ret (ve_eq (ve_tup (va_cons (ve_div (ve_var 0 rfl) (ve_var 2 rfl) p2) (va_cons (ve_div (ve_var 1 rfl) (ve_var 2 rfl) p2) va_nil))) ?_)
      rw [fr_norm h0, ← e]
    · refine gb_ifNo (vt_eq (vt_eqI (ve_var 3 rfl) ve_int) (by simp; omega)) ?_
      refine gb_par 2 3 (va_cons (ve_var 3 rfl) (va_cons (ve_mod (ve_intI T.b_int (ve_var 2 rfl)) (ve_var 3 rfl) (by omega)) va_nil)) ?_ rfl sc_law_fraction.nd (by decide)
      exact gb_nil fun σ H' s' => ⟨(b, a % b), euc_step hl hg hb, s'.weak (by walk_at "WK")⟩
  · obtain ⟨a, b⟩ := g
    have e := hg.zero (euc_end hg)
    obtain ⟨p1, p2⟩ := ga a e
    refine gb_ret (ve_eq (ve_tup (va_cons (ve_div (ve_var 0 rfl) (ve_var 2 rfl) p2) (va_cons (ve_div (ve_var 1 rfl) (ve_var 2 rfl) p2) va_nil))) ?_)
    rw [fr_norm h0, ← e]
theorem df_law_plus (T : Tx K mg) : DF P w K mg base "_law_plus" 2 rPlus := by
  obtain ⟨f, fd, hm, F⟩ := T.g_law_plus
  refine df_mk hm F sc_law_plus (bind2 F) (fun ds d h => by obtain ⟨n, k, rfl, _⟩ := h; rfl) fun cdv A outer s H E os ds d hr h => ?_
  obtain ⟨p, q, rfl, hp, hq, rfl⟩ := h
  refine gb_ret (ve_call (df_law_fraction T) hr (va_cons (ve_add (ve_mul (ve_fr0 (ve_var 0 rfl)) (ve_fr1 (ve_var 1 rfl)) (hp.cnd hq)) (ve_mul (ve_fr0 (ve_var 1 rfl)) (ve_fr1 (ve_var 0 rfl)) (hq.cnd hp))) (va_cons (ve_mul (ve_fr1 (ve_var 0 rfl)) (ve_fr1 (ve_var 1 rfl)) (hp.cdd hq)) va_nil)) ?_)
  refine ⟨_, p.den * q.den, rfl, Nat.mul_pos p.den_pos q.den_pos, hp.mul3 hq, ?_⟩
  rw [fr_add]
theorem df_law_times (T : Tx K mg) : DF P w K mg base "_law_times" 2 rTimes := by
  obtain ⟨f, fd, hm, F⟩ := T.g_law_times
  refine df_mk hm F sc_law_times (bind2 F) (fun ds d h => by obtain ⟨n, k, rfl, _⟩ := h; rfl) fun cdv A outer s H E os ds d hr h => ?_
  obtain ⟨p, q, rfl, hp, hq, rfl⟩ := h
  refine gb_ret (ve_call (df_law_fraction T) hr (va_cons (ve_mul (ve_fr0 (ve_var 0 rfl)) (ve_fr0 (ve_var 1 rfl)) (hp.cnn hq)) (va_cons (ve_mul (ve_fr1 (ve_var 0 rfl)) (ve_fr1 (ve_var 1 rfl)) (hp.cdd hq)) va_nil)) ?_)
  refine ⟨_, p.den * q.den, rfl, Nat.mul_pos p.den_pos q.den_pos, hp.mul3 hq, ?_⟩
  rw [fr_mul]
theorem df_law_less (T : Tx K mg) : DF P w K mg base "_law_less" 1 rLess := by
  obtain ⟨f, fd, hm, F⟩ := T.g_law_less
  refine df_mk hm F sc_law_less (bind2 F) (fun ds d h => by obtain ⟨n, k, rfl, _⟩ := h; rfl) fun cdv A outer s H E os ds d hr h => ?_
  obtain ⟨p, q, rfl, hp, hq, rfl⟩ := h
  refine gb_ret (ve_eq (ve_lt (ve_mul (ve_fr0 (ve_var 0 rfl)) (ve_fr1 (ve_var 1 rfl)) (hp.cnd hq)) (ve_mul (ve_fr0 (ve_var 1 rfl)) (ve_fr1 (ve_var 0 rfl)) (hq.cnd hp))) ?_)
  rw [fr_lt]
end
end LC

namespace LC
open PySem PySem.Spec PyProof.Rows L2 DL
local macro_rules | `(tactic| walk_at "WK") => `(tactic| repeat (first | exact Weak.nil | refine Weak.same ?_ | refine Weak.drop ?_))

theorem sa_eq {K : PySem.W.Frag} {H0 H : Hp} {os : List Addr} {mu mu' : List (Addr × MO)} {ρ ρ' : List SD} {σ : L2.St} (h : SA K ⟨H0, os, mu, ρ⟩ σ H) (e : mu = mu') (w : Weak ρ ρ') : SA K ⟨H0, os, mu', ρ'⟩ σ H := e ▸ h.weak w
theorem log_lt {n : Nat} (h : n < 2 ^ 100) : n.log2 < 200 := by
  by_cases e : n = 0
  · rw [e]; decide
  · rw [Nat.log2_lt e]
    exact Nat.lt_of_lt_of_le h (Nat.pow_le_pow_right (by decide) (by decide))
theorem cmw {i j : Int} (h1 : i.natAbs < 2 ^ 100) (h2 : j.natAbs < 2 ^ 100) : CMulW i j := by
  have := log_lt h1
  have := log_lt h2
  show i.natAbs.log2 + j.natAbs.log2 < 1000000
  omega
theorem cdw {i j : Int} (h1 : 0 < j) (h2 : j.natAbs < 2 ^ 100) : CDivW i j := by
  have := log_lt h2
  exact ⟨h1, by omega⟩
def part (dr k : Nat) : Nat := 1 + dr / (3 * k + 2) % 4
def totp (dr n : Nat) : Nat := ((List.range n).map (part dr)).sum
def spr (dr : Nat) (vals : List Int) : Spread := (List.range vals.length).map fun k => (vals.getD k 0, mkRat (part dr k : Int) (totp dr vals.length))
structure ValsOk (vals : List Int) : Prop where
  ne : 1 ≤ vals.length
  len : vals.length ≤ 4
  asc : vals.Pairwise (· < ·)
theorem totp_bd (dr : Nat) : ∀ n : Nat, n ≤ totp dr n ∧ totp dr n ≤ 4 * n
  | 0 => ⟨Nat.zero_le _, by show 0 ≤ 4 * 0; decide⟩
  | n + 1 => by
    have h := totp_bd dr n
    unfold totp at h ⊢
    rw [List.range_succ, List.map_append, List.sum_append]
    have h2 : part dr n ≤ 4 ∧ 1 ≤ part dr n := by unfold part; omega
    simp only [List.map_cons, List.map_nil, List.sum_cons, List.sum_nil]
    omega
theorem totp_le {dr n : Nat} : ∀ {k : Nat}, k < n → part dr k ≤ totp dr n := fun {k} hk => by
  unfold totp
  induction n with
  | zero => omega
  | succ n ih =>
    rw [List.range_succ, List.map_append, List.sum_append]
    simp only [List.map_cons, List.map_nil, List.sum_cons, List.sum_nil]
    by_cases e : k = n
    · subst e; omega
    · have := ih (by omega)
      omega
theorem dvd16 : ∀ S : Nat, 1 ≤ S → S ≤ 16 → ∃ q, S * q = 720720 := by
  intro S h1 h2
  refine ⟨720720 / S, ?_⟩
  have : S = 1 ∨ S = 2 ∨ S = 3 ∨ S = 4 ∨ S = 5 ∨ S = 6 ∨ S = 7 ∨ S = 8 ∨ S = 9 ∨ S = 10 ∨ S = 11 ∨ S = 12 ∨ S = 13 ∨ S = 14 ∨ S = 15 ∨ S = 16 := by omega
  rcases this with h | h | h | h | h | h | h | h | h | h | h | h | h | h | h | h <;> subst h <;> decide
theorem natCast_ne {n : Nat} (h : 0 < n) : (n : Rat) ≠ 0 := by
  intro h0
  have : ((n : Int) : Rat) = ((0 : Int) : Rat) := h0
  rw [Rat.intCast_inj] at this
  omega
theorem natCast_le {a b : Nat} (h : a ≤ b) : (a : Rat) ≤ (b : Rat) := by
  have : ((a : Int) : Rat) ≤ ((b : Int) : Rat) := Rat.intCast_le_intCast.mpr (by omega)
  exact this
theorem mk_div (p : Nat) (S : Nat) : mkRat (p : Int) S = (p : Rat) * (S : Rat)⁻¹ := by
  rw [Rat.mkRat_eq_div, Rat.div_def]
  rfl
theorem mk_pr {p S : Nat} (hp : 1 ≤ p) (hle : p ≤ S) (hS : S ≤ 16) : Pr 1 (mkRat (p : Int) S) ∧ 0 < mkRat (p : Int) S := by
  have hne := natCast_ne (n := S) (by omega)
  have hSp : (0 : Rat) < (S : Rat) := by
    have := natCast_le (a := 1) (b := S) (by omega)
    have h1 : ((1 : Nat) : Rat) = 1 := rfl
    rw [h1] at this
    grind
  have hpp : (0 : Rat) < (p : Rat) := by
    have := natCast_le (a := 1) (b := p) (by omega)
    have h1 : ((1 : Nat) : Rat) = 1 := rfl
    rw [h1] at this
    grind
  have hi : (0 : Rat) < (S : Rat)⁻¹ := Rat.inv_pos.mpr hSp
  have e := mk_div p S
  have pos : 0 < mkRat (p : Int) S := by rw [e]; exact Rat.mul_pos hpp hi
  obtain ⟨q, hq⟩ := dvd16 S (by omega) hS
  refine ⟨⟨by grind, ?_, (p * q : Nat), ?_⟩, pos⟩
  · rw [e]
    have h1 := Rat.mul_le_mul_of_nonneg_left (natCast_le hle) (show (0 : Rat) ≤ (S : Rat)⁻¹ by grind)
    rw [Rat.inv_mul_cancel _ hne] at h1
    grind
  · have h1 : Mk 1 = S * q := by rw [hq]; unfold Mk; decide
    rw [h1, e, natCast_mul]
    show _ = ((p * q : Nat) : Rat)
    rw [natCast_mul]
    have h2 := Rat.inv_mul_cancel _ hne
    grind
theorem sum_parts (dr S : Nat) : ∀ n : Nat, sumF (fun k => mkRat (part dr k : Int) S) (List.range n) = mkRat (totp dr n : Int) S
  | 0 => by rw [mk_div]; show (0 : Rat) = ((0 : Nat) : Rat) * _; have : ((0 : Nat) : Rat) = 0 := rfl; rw [this, Rat.zero_mul]
  | n + 1 => by
    rw [List.range_succ, sumF_append, sum_parts dr S n]
    show _ + (mkRat (part dr n : Int) S + 0) = _
    rw [mk_div, mk_div, mk_div, Rat.add_zero]
    have h : totp dr (n + 1) = totp dr n + part dr n := by
      unfold totp
      rw [List.range_succ, List.map_append, List.sum_append]
      simp
    have h2 : ((totp dr n + part dr n : Nat) : Rat) = (totp dr n : Rat) + (part dr n : Rat) := by
      have h3 := Rat.intCast_add (totp dr n : Int) (part dr n : Int)
      exact h3
    rw [h, h2]
    grind
theorem spr_ok {dr : Nat} {vals : List Int} (h : ValsOk vals) : SpreadOk 1 (spr dr vals) := by
  have hb := totp_bd dr vals.length
  have h1 := h.ne
  have h2 := h.len
  refine ⟨fun x hx => ?_, ?_, ?_⟩
  · obtain ⟨k, hk, rfl⟩ := List.mem_map.mp hx
    have hk := List.mem_range.mp hk
    exact mk_pr (by unfold part; omega) (totp_le hk) (by omega)
  · unfold spr
    rw [List.pairwise_map]
    refine List.pairwise_iff_getElem.mpr fun i j hi hj hij => ?_
    rw [List.getElem_range, List.getElem_range]
    rw [List.length_range] at hi hj
    show vals.getD i 0 < vals.getD j 0
    rw [List.getD_eq_getElem?_getD, List.getD_eq_getElem?_getD, List.getElem?_eq_getElem hi, List.getElem?_eq_getElem hj]
    exact List.pairwise_iff_getElem.mp h.asc i j hi hj hij
  · unfold spr
    rw [sumF_map]
    show sumF (fun k => mkRat (part dr k : Int) (totp dr vals.length)) _ = 1
    rw [sum_parts, mk_div]
    exact Rat.mul_inv_cancel _ (natCast_ne (by omega))
theorem spr_len (dr : Nat) (vals : List Int) : (spr dr vals).length = vals.length := by unfold spr; rw [List.length_map, List.length_range]
theorem spr_val {dr : Nat} {vals : List Int} {x : Int × Rat} (hx : x ∈ spr dr vals) : x.1 ∈ vals := by
  obtain ⟨k, hk, rfl⟩ := List.mem_map.mp hx
  have hk := List.mem_range.mp hk
  show vals.getD k 0 ∈ vals
  rw [List.getD_eq_getElem?_getD, List.getElem?_eq_getElem hk]
  exact List.getElem_mem hk
def rSpread (ds : List PyData) (d : PyData) : Prop := ∃ (dr : Nat) (vals : List Int), ds = [.int (dr : Int), .list (vals.map .int)] ∧ 1 ≤ vals.length ∧ vals.length ≤ 4 ∧ d = encS (spr dr vals)
section
variable {P : Program} {w : World} {K : PySem.W.Frag} {mg : Str → Option Value} {base : Heap}
theorem dg_law_digits (T : Tx K mg) : DG P w K mg base "_law_digits" 1 pDig qDig := by
  obtain ⟨f, fd, hm, F⟩ := T.g_law_digits
  refine dg_mk hm F sc_law_digits (bind3 F) (fun ds h => by obtain ⟨c, b, m, rfl, _⟩ := h; rfl) fun cdv A outer s H E os ds hr h => ?_
  obtain ⟨c, b, m, rfl, hb0, hb1, hm20⟩ := h
  refine gb_newL 3 (fun p => ?_) sc_law_digits.nd
  refine gb_set 4 (ve_ge (ve_var 0 rfl) (ve_pow ve_int ve_int ⟨by decide, by decide, by decide⟩)) ?_ sc_law_digits.nd
  have e18 : (10 : Int) ^ (18 : Int).toNat = 1000000000000000000 := by decide
  rw [e18]
  refine gb_range (m : Int) 5 (fun k (g : Nat × List Nat) => Digs b k g.2 ∧ (c < 1000000000000000000 → g.1 < 1000000000000000000)) (fun g => [(p, .ml (g.2.map fun (n : Nat) => PyData.int (n : Int)))]) (fun g => [.dat (.int (g.1 : Int)), .dat (.int b), .dat (.int m), .val (.ref p), .dat (.bool (decide ((1000000000000000000 : Int) ≤ c))), .any])
    T.b_range (by omega) (ve_var 2 rfl) (tg_nm sc_law_digits.nd) ⟨(c, []), ⟨⟨rfl, fun n hn => by cases hn⟩, fun h => h⟩, rfl, by walk_at "WK"⟩ (fun k g hk hg => ?_) (fun g hg => ?_) rfl
  · obtain ⟨c1, ns⟩ := g
    obtain ⟨⟨hl, hlt⟩, hc⟩ := hg
    have hl : ns.length = k := hl
    have hlt : ∀ n ∈ ns, n < b := hlt
    have hk20 : k < 20 := by omega
    have fin : ∀ v : Nat, v < b → Digs b (k + 1) (ns ++ [v]) := fun v hv => ⟨by rw [List.length_append, hl]; rfl, fun n hn => by
      rcases List.mem_append.mp hn with hn | hn
      · exact hlt n hn
      · rw [List.mem_singleton.mp hn]; exact hv⟩
    by_cases hbig : (1000000000000000000 : Int) ≤ c
    · refine gb_if (vt_eq (k' := true) (vt_val (ve_var 4 rfl)) (decide_eq_true hbig)) (fun _ => ?_) fun z => nomatch z
      refine gb_app 3 0 rfl rfl (ve_mod (ve_intI T.b_int (ve_var 0 rfl)) (ve_var 1 rfl) (by omega)) (by rw [List.length_map]; omega) ?_
      refine gb_set 0 (ve_div (ve_var 0 rfl) (ve_var 1 rfl) (cdw (by omega) (by show b < 2 ^ 100; omega))) ?_ sc_law_digits.nd
      refine gb_thn rfl (gb_nil fun σ H s => ⟨(c1 / b, ns ++ [c1 % b]), ⟨fin _ (Nat.mod_lt _ hb0), fun z => by omega⟩, ?_⟩)
      refine sa_eq s ?_ (by walk_at "WK")
      show [(p, MO.ml _)] = [(p, MO.ml _)]
      rw [List.map_append]
      rfl
    · have hc1 : c1 < 1000000000000000000 := hc (by omega)
      refine gb_if (vt_eq (k' := false) (vt_val (ve_var 4 rfl)) (decide_eq_false hbig)) (fun z => nomatch z) fun _ => ?_
      refine gb_app 3 0 rfl rfl (ve_eq (ve_mod (ve_mod (ve_intI T.b_int (ve_add (ve_add (ve_mul (ve_var 0 rfl) ve_int ?_) (ve_mul (ve_mul (ve_add (ve_var 5 rfl) ve_int) (ve_add (ve_var 5 rfl) ve_int) ?_) ve_int ?_)) (ve_mul (ve_div (ve_var 0 rfl) ve_int (cdw (by decide) (by decide))) (ve_var 5 rfl) ?_))) ve_int (by decide)) (ve_var 1 rfl) (by omega))
        (d := .int (((c1 * 48271 + (k + 1) * (k + 5) * 69621 + c1 / 97 * k) % 2147483647 % b : Nat) : Int)) ?_) (by rw [List.length_map]; omega) ?_
      · exact cmw (by show c1 < 2 ^ 100; omega) (by decide)
      · exact cmw (by omega) (by omega)
      · refine cmw ?_ (by decide)
        have h1 : (k + 1) * (k + 5) ≤ 20 * 24 := Nat.mul_le_mul (by omega) (by omega)
        show ((k + 1) * (k + 5) : Nat) < 2 ^ 100
        omega
      · exact cmw (by show c1 / 97 < 2 ^ 100; omega) (by show k < 2 ^ 100; omega)
      · rfl
      · refine gb_thn rfl (gb_nil fun σ H s => ⟨(c1, ns ++ [(c1 * 48271 + (k + 1) * (k + 5) * 69621 + c1 / 97 * k) % 2147483647 % b]), ⟨fin _ (Nat.mod_lt _ hb0), hc⟩, ?_⟩)
        refine sa_eq s ?_ (by walk_at "WK")
        show [(p, MO.ml _)] = [(p, MO.ml _)]
        rw [List.map_append]
        rfl
  · obtain ⟨c1, ns⟩ := g
    have hg1 := hg.1
    rw [Int.toNat_natCast] at hg1
    exact gb_frz 3 0 rfl rfl rfl (gb_retG (Po := qDig [.int (c : Int), .int (b : Int), .int (m : Int)]) (ve_var 3 rfl) fun c' b' m' e => by
      simp only [List.cons.injEq, PyData.int.injEq, and_true] at e
      obtain ⟨_, e2, e3⟩ := e
      have e2 : b = b' := by omega
      have e3 : m = m' := by omega
      subst e2 e3
      exact ⟨ns, hg1, rfl⟩)
theorem df_law_spread (T : Tx K mg) : DF P w K mg base "_law_spread" 2 rSpread := by
  obtain ⟨f, fd, hm, F⟩ := T.g_law_spread
  refine df_mk hm F sc_law_spread (bind2 F) (fun ds d h => by obtain ⟨n, k, rfl, _⟩ := h; rfl) fun cdv A outer s H E os ds d hr h => ?_
  obtain ⟨dr, vals, rfl, h1, h2, rfl⟩ := h
  have hb := totp_bd dr vals.length
  have ev : vals.length = (vals.map PyData.int).length := (List.length_map ..).symm
  refine gb_set 3 (ve_lcR 2 vals.length (fun _ => true) (fun k => .int (part dr k : Int)) T.b_range (ve_eq (ve_len T.b_len (ve_var 1 rfl)) (by rw [List.length_map])) (blkOk_by (own := [("_law_k", 2)]) rfl) (fun _ _ _ _ _ => tg_nm sc_law_spread.nd) ?_ (by omega) rfl sc_law_spread.nd (by decide)) ?_ sc_law_spread.nd
  · intro Hb Da acc k hst hk
    refine ⟨fun _ _ _ _ _ => vts_nil, fun _ _ _ _ _ _ => ve_eq (ve_add ve_int (ve_mod (ve_div (ve_var 0 rfl) (ve_add (ve_mul ve_int (ve_var 2 rfl) (cmw (by decide) (by omega))) ve_int) (cdw (by omega) (by omega))) ve_int (by decide))) rfl⟩
  · rw [List.filter_eq_self.mpr (fun _ _ => rfl)]
    have ep : ((List.range vals.length).map fun k => PyData.int (part dr k : Int)) = ((List.range vals.length).map fun k => (part dr k : Int)).map PyData.int := by rw [List.map_map]; rfl
    have es : ∀ n : Nat, (((List.range n).map fun k => (part dr k : Int)).sum : Int) = (totp dr n : Int) := by
      intro n
      induction n with
      | zero => rfl
      | succ n ih =>
        have h : totp dr (n + 1) = totp dr n + part dr n := by
          unfold totp
          rw [List.range_succ, List.map_append, List.sum_append]
          simp
        rw [List.range_succ, List.map_append, List.sum_append, ih, h]
        simp
    refine gb_ret (ve_eq (ve_lcR 2 vals.length (fun _ => true) (fun k => encI (vals.getD k 0, mkRat (part dr k : Int) (totp dr vals.length))) T.b_range (ve_eq (ve_len T.b_len (ve_var 1 rfl)) (by rw [List.length_map])) (blkOk_by (own := [("_law_k", 2)]) rfl) (fun _ _ _ _ _ => tg_nm sc_law_spread.nd) ?_ (by omega) rfl sc_law_spread.nd (by decide)) ?_)
    · intro Hb Da acc k hst hk
      refine ⟨fun _ _ _ _ _ => vts_nil, fun _ _ _ _ _ _ => ve_tup (va_cons (ve_ixL (d := .int (vals.getD k 0)) (ve_var 1 rfl) (ve_var 2 rfl) (atI_nat ?_)) (va_cons (ve_call (df_law_fraction T) hr (va_cons (ve_ixL (d := .int (part dr k : Int)) (ve_var 3 rfl) (ve_var 2 rfl) (atI_nat ?_)) (va_cons (ve_eq (ve_sum (ns := (List.range vals.length).map fun k => (part dr k : Int)) rfl T.b_sum (ve_eq (ve_var 3 rfl) (by rw [ep]))) (by rw [es])) va_nil)) ⟨_, totp dr vals.length, rfl, by omega, ?_, rfl⟩) va_nil))⟩
      · rw [List.getElem?_map, List.getD_eq_getElem?_getD, List.getElem?_eq_getElem hk]
        rfl
      · rw [List.getElem?_map, List.getElem?_range hk]
        rfl
      · exact Nat.lt_of_le_of_lt (show totp dr vals.length ≤ 16 by omega) (Nat.lt_of_lt_of_le (show (16 : Nat) < 2 ^ 5 by decide) (Nat.pow_le_pow_right (by decide) (by decide)))
    · rw [List.filter_eq_self.mpr (fun _ _ => rfl)]
      show PyData.list _ = PyData.list _
      unfold spr
      rw [List.map_map]
      rfl
end
end LC

namespace LC
open PySem PySem.Spec PyProof.Rows L2 DL
local macro_rules | `(tactic| walk_at "WK") => `(tactic| repeat (first | exact Weak.nil | refine Weak.same ?_ | refine Weak.drop ?_))

def pHouse (ds : List PyData) : Prop := ∃ c0 c1 : Nat, ds = [.int (c0 : Int), .int (c1 : Int)]
def qHouse (ds : List PyData) (d : PyData) : Prop := ∃ h : Hse, HseOk h ∧ d = encH h
theorem dig_at {b m : Nat} {ns : List Nat} (h : Digs b m ns) {i : Nat} (hi : i < m) : ∃ v : Nat, v < b ∧ atI (ns.map fun (n : Nat) => PyData.int (n : Int)) (i : Int) = some (.int (v : Int)) := by
  have hl : i < ns.length := by rw [h.len]; exact hi
  exact ⟨ns[i], h.lt _ (List.getElem_mem hl), atI_nat (by rw [List.getElem?_map, List.getElem?_eq_getElem hl]; rfl)⟩
theorem pick_at (l : List Int) {n : Nat} (hn : l.length = n) {v : Int} (h0 : 0 ≤ v) (h1 : v < n) : ∃ x ∈ l, atI (l.map PyData.int) v = some (.int x) := by
  obtain ⟨j, rfl⟩ : ∃ j : Nat, v = (j : Int) := ⟨v.toNat, by omega⟩
  have hl : j < l.length := by omega
  exact ⟨l[j], List.getElem_mem hl, atI_nat (by rw [List.getElem?_map, List.getElem?_eq_getElem hl]; rfl)⟩
theorem bigD {n : Nat} (h : n < 27720) : n < 2 ^ 100 := by omega
section
variable {P : Program} {w : World} {K : PySem.W.Frag} {mg : Str → Option Value} {base : Heap}
theorem dg_law_house (T : Tx K mg) : DG P w K mg base "_law_house" 3 pHouse qHouse := by
  obtain ⟨f, fd, hm, F⟩ := T.g_law_house
  refine dg_mk hm F sc_law_house (bind2 F) (fun ds h => by obtain ⟨c, b, rfl⟩ := h; rfl) fun cdv A outer s H E os ds hr h => ?_
  obtain ⟨c0, c1, rfl⟩ := h
  refine gb_setG 2 ((dg_law_digits T).up (by decide : 1 ≤ 2)) hr (va_cons (ve_var 0 rfl) (va_cons ve_int (va_cons ve_int va_nil))) ⟨c0, 2520, 8, rfl, by decide, by decide, by decide⟩ (fun d hd => ?_) sc_law_house.nd
  obtain ⟨sz, hsz, rfl⟩ := hd c0 2520 8 rfl
  refine gb_setG 3 ((dg_law_digits T).up (by decide : 1 ≤ 2)) hr (va_cons (ve_var 1 rfl) (va_cons ve_int (va_cons ve_int va_nil))) ⟨c1, 27720, 20, rfl, by decide, by decide, by decide⟩ (fun d hd => ?_) sc_law_house.nd
  obtain ⟨dr, hdr, rfl⟩ := hd c1 27720 20 rfl
  obtain ⟨s0, l0, a0⟩ := dig_at hsz (show 0 < 8 by decide)
  obtain ⟨s1, l1, a1⟩ := dig_at hsz (show 1 < 8 by decide)
  obtain ⟨s2, l2, a2⟩ := dig_at hsz (show 2 < 8 by decide)
  obtain ⟨s3, l3, a3⟩ := dig_at hsz (show 3 < 8 by decide)
  obtain ⟨s6, l6, a6⟩ := dig_at hsz (show 6 < 8 by decide)
  obtain ⟨s7, l7, a7⟩ := dig_at hsz (show 7 < 8 by decide)
  obtain ⟨cnt, hcnt, ecnt⟩ := pick_at [1, 1, 2, 2, 3, 4] (n := 6) rfl (v := (s0 : Int) % 6) (by omega) (by omega)
  have hc : 1 ≤ cnt ∧ cnt ≤ 4 := by
    simp only [List.mem_cons, List.not_mem_nil, or_false] at hcnt
    omega
  refine gb_set 4 (ve_ixL (ve_lst (va_cons ve_int (va_cons ve_int (va_cons ve_int (va_cons ve_int (va_cons ve_int (va_cons ve_int va_nil))))))) (ve_mod (ve_ixL (ve_var 2 rfl) ve_int a0) ve_int (by decide)) ecnt) ?_ sc_law_house.nd
  refine gb_set 5 ve_int ?_ sc_law_house.nd
  -- large
  obtain ⟨lg, hlg, elg⟩ := pick_at [12, 30] (n := 2) rfl (v := (s7 : Int) / 12 % 2) (by omega) (by omega)
  obtain ⟨n, hn⟩ : ∃ n : Nat, cnt = (n : Int) := ⟨cnt.toNat, by omega⟩
  subst hn
  obtain ⟨L, hL0, hL1, hL2, hLt, hLf⟩ : ∃ L : Int, 1 ≤ L ∧ L ≤ 30 ∧ (1 < L → n = 1) ∧ ((s7 : Int) % 12 = 3 ∧ (n : Int) = 1 → L = lg) ∧ (¬ ((s7 : Int) % 12 = 3 ∧ (n : Int) = 1) → L = 1) := by
    simp only [List.mem_cons, List.not_mem_nil, or_false] at hlg
    by_cases c : (s7 : Int) % 12 = 3 ∧ (n : Int) = 1
    · exact ⟨lg, by omega, by omega, fun _ => by omega, fun _ => rfl, fun z => absurd c z⟩
    · exact ⟨1, by omega, by omega, fun z => by omega, fun z => absurd z c, fun _ => rfl⟩
  refine gb_ifJ ⟨H, os, [], [.dat (.int c0), .dat (.int c1), .dat (encN sz), .dat (encN dr), .dat (.int (n : Int)), .dat (.int L), .any, .any, .any, .any, .any, .any, .any, .any, .any, .any, .any, .any, .any]⟩ (vw_pt (vw_and (vt_eqI (ve_mod (ve_ixL (ve_var 2 rfl) ve_int a7) ve_int (by decide)) ve_int) fun _ => vw_and1 (vt_eqI (ve_var 4 rfl) ve_int))) (fun z => ?_) (fun z => ?_) ?_
  · have z : (s7 : Int) % 12 = 3 ∧ (n : Int) = 1 := by simpa using z
    refine gb_set 5 (ve_ixL (d := PyData.int L) (ve_lst (va_cons ve_int (va_cons ve_int va_nil))) (ve_mod (ve_div (ve_ixL (ve_var 2 rfl) ve_int a7) ve_int (cdw (by decide) (by decide))) ve_int (by decide)) (elg.trans (by rw [hLt z]))) ?_ sc_law_house.nd
    exact gb_fin rfl (by walk_at "WK")
  · have z : ¬ ((s7 : Int) % 12 = 3 ∧ (n : Int) = 1) := by simpa using z
    have e := hLf z
    subst e
    exact gb_fin rfl (by walk_at "WK")
  refine gb_newL 6 (fun pw => ?_) sc_law_house.nd
  refine gb_range (n : Int) 7 (fun k (ws : List Wth) => ws.length = k ∧ ∀ w ∈ ws, WthOk n w) (fun ws => [(pw, .ml (ws.map encW))]) (fun _ => [.dat (.int c0), .dat (.int c1), .dat (encN sz), .dat (encN dr), .dat (.int (n : Int)), .dat (.int L), .val (.ref pw), .any, .any, .any, .any, .any, .any, .any, .any, .any, .any, .any, .any]) T.b_range (by omega) (ve_var 4 rfl) (tg_nm sc_law_house.nd) ⟨[], ⟨rfl, fun w hw => by cases hw⟩, rfl, by walk_at "WK"⟩ (fun k ws hk hws => ?_) (fun ws hws => ?_) rfl
  · obtain ⟨hwl, hwo⟩ := hws
    have hk4 : k < 4 := by omega
    refine gb_newL 8 (fun pl => ?_) sc_law_house.nd
    obtain ⟨M0, hM0, eM0⟩ := pick_at [0, 1, 1, 1, 2, 3] (n := 6) rfl (v := (s1 : Int) / ((k : Int) + 1) % 6) (by omega) (by omega)
    have hM0b : 0 ≤ M0 ∧ M0 ≤ 3 := by
      simp only [List.mem_cons, List.not_mem_nil, or_false] at hM0
      omega
    refine gb_set 9 (ve_ixL (ve_lst (va_cons ve_int (va_cons ve_int (va_cons ve_int (va_cons ve_int (va_cons ve_int (va_cons ve_int va_nil))))))) (ve_mod (ve_div (ve_ixL (ve_var 2 rfl) ve_int a1) (ve_add (ve_var 7 rfl) ve_int) (cdw (by omega) (by omega))) ve_int (by decide)) eM0) ?_ sc_law_house.nd
    obtain ⟨M, hMM, hMt, hMf⟩ : ∃ M : Nat, M ≤ 3 ∧ (1 < L → (M : Int) = mnI M0 1) ∧ (¬ 1 < L → (M : Int) = M0) := by
      by_cases c : 1 < L
      · refine ⟨(mnI M0 1).toNat, ?_, fun _ => ?_, fun z => absurd c z⟩ <;> (unfold mnI; split <;> omega)
      · exact ⟨M0.toNat, by omega, fun z => absurd z c, fun _ => by omega⟩
    refine gb_ifJ ⟨H, os, [(pl, .ml []), (pw, .ml (ws.map encW))], [.dat (.int c0), .dat (.int c1), .dat (encN sz), .dat (encN dr), .dat (.int (n : Int)), .dat (.int L), .val (.ref pw), .dat (.int k), .val (.ref pl), .dat (.int (M : Int)), .any, .any, .any, .any, .any, .any, .any, .any, .any]⟩ (vt_gt (ve_var 5 rfl) ve_int) (fun z => ?_) (fun z => ?_) ?_
    · have z : 1 < L := of_decide_eq_true z
      refine gb_set 9 (ve_eq (ve_min2 rfl T.b_min (ve_var 9 rfl) ve_int) (d := .int (M : Int)) (by rw [hMt z]; rfl)) ?_ sc_law_house.nd
      exact gb_fin rfl (by walk_at "WK")
    · have z : ¬ 1 < L := of_decide_eq_false z
      have e := hMf z
      subst e
      exact gb_fin rfl (by walk_at "WK")
    refine gb_range (M : Int) 10 (fun j (ls : List Spread) => ls.length = j ∧ ∀ l ∈ ls, LineOk l) (fun ls => [(pl, .ml (ls.map encS)), (pw, .ml (ws.map encW))]) (fun _ => [.dat (.int c0), .dat (.int c1), .dat (encN sz), .dat (encN dr), .dat (.int (n : Int)), .dat (.int L), .val (.ref pw), .dat (.int k), .val (.ref pl), .dat (.int (M : Int)), .any, .any, .any, .any, .any, .any, .any, .any, .any]) T.b_range (by omega) (ve_var 9 rfl) (tg_nm sc_law_house.nd) ⟨[], ⟨rfl, fun w hw => by cases hw⟩, rfl, by walk_at "WK"⟩ (fun j ls hj hls => ?_) (fun ls hls => ?_) rfl
    · obtain ⟨hll, hlo⟩ := hls
      have hj3 : j < 3 := by omega
      obtain ⟨d0, ld, ad⟩ := dig_at hdr (show 3 * k + j < 20 by omega)
      refine gb_set 11 (ve_ixL (ve_var 3 rfl) (ve_add (ve_mul ve_int (ve_var 7 rfl) (cmw (by decide) (by omega))) (ve_var 10 rfl)) ad) ?_ sc_law_house.nd
      refine gb_set 12 (ve_mod (ve_var 11 rfl) ve_int (by decide)) ?_ sc_law_house.nd
      refine gb_newLs 13 (va_cons (ve_var 12 rfl) (va_cons (ve_add (ve_add (ve_var 12 rfl) ve_int) (ve_mod (ve_div (ve_var 11 rfl) ve_int (cdw (by decide) (by decide))) ve_int (by decide))) va_nil)) (fun qv => ?_) sc_law_house.nd
      obtain ⟨vals, hvok, hvb, hvt, hvf⟩ : ∃ vals : List Int, (vals.length = 2 ∨ vals.length = 3) ∧ (vals.Pairwise (· < ·) ∧ ∀ v ∈ vals, 0 ≤ v ∧ v ≤ 8) ∧ ((d0 : Int) / 6 % 2 = 1 → vals = [(d0 : Int) % 2, (d0 : Int) % 2 + 1 + (d0 : Int) / 2 % 3, (d0 : Int) % 2 + 1 + (d0 : Int) / 2 % 3 + 1 + (d0 : Int) / 12 % 4]) ∧ (¬ (d0 : Int) / 6 % 2 = 1 → vals = [(d0 : Int) % 2, (d0 : Int) % 2 + 1 + (d0 : Int) / 2 % 3]) := by
        by_cases c : (d0 : Int) / 6 % 2 = 1
        · refine ⟨_, .inr rfl, ⟨?_, ?_⟩, fun _ => rfl, fun z => absurd c z⟩
          · simp only [List.pairwise_cons, List.mem_cons, List.not_mem_nil, or_false, forall_eq_or_imp, forall_eq]
            refine ⟨⟨by omega, by omega⟩, by omega, ?_⟩
            simp
          · simp only [List.mem_cons, List.not_mem_nil, or_false, forall_eq_or_imp, forall_eq]
            omega
        · refine ⟨_, .inl rfl, ⟨?_, ?_⟩, fun z => absurd z c, fun _ => rfl⟩
          · simp only [List.pairwise_cons, List.mem_cons, List.not_mem_nil, or_false, forall_eq]
            refine ⟨by omega, ?_⟩
            simp
          · simp only [List.mem_cons, List.not_mem_nil, or_false, forall_eq_or_imp, forall_eq]
            omega
      refine gb_ifJ ⟨H, os, [(qv, .ml (vals.map .int)), (pl, .ml (ls.map encS)), (pw, .ml (ws.map encW))], [.dat (.int c0), .dat (.int c1), .dat (encN sz), .dat (encN dr), .dat (.int (n : Int)), .dat (.int L), .val (.ref pw), .dat (.int k), .val (.ref pl), .dat (.int (M : Int)), .any, .dat (.int d0), .any, .val (.ref qv), .any, .any, .any, .any, .any]⟩ (vt_eqI (ve_mod (ve_div (ve_var 11 rfl) ve_int (cdw (by decide) (by decide))) ve_int (by decide)) ve_int) (fun z => ?_) (fun z => ?_) ?_
      · have e := hvt (of_decide_eq_true z)
        subst e
        refine gb_app 13 0 rfl rfl (ve_add (ve_add (ve_ixM 13 0 rfl rfl ve_int rfl) ve_int) (ve_mod (ve_div (ve_var 11 rfl) ve_int (cdw (by decide) (by decide))) ve_int (by decide))) (Nat.le_of_ble_eq_true rfl) ?_
        exact gb_finM rfl rfl (by walk_at "WK")
      · have e := hvf (of_decide_eq_false z)
        subst e
        exact gb_finM rfl rfl (by walk_at "WK")
      refine gb_frz 13 0 rfl rfl rfl ?_
      have hvl : vals.length ≤ 3 ∧ 2 ≤ vals.length := by omega
      refine gb_app 8 0 rfl rfl (ve_call ((df_law_spread T).up (by decide : 2 ≤ 2)) hr (va_cons (ve_var 11 rfl) (va_cons (ve_lc (.nm 14) vals .int (fun _ => true) (fun v => .int (L * v)) (ve_var 13 rfl) (blkOk_by (own := [("_law_value", 14)]) rfl) (fun _ _ _ _ _ => tg_nm sc_law_house.nd) ?_ (by omega) rfl sc_law_house.nd (by decide)) va_nil)) ⟨d0, vals.map (L * ·), ?_, ?_, ?_, rfl⟩) (by rw [List.length_map]; omega) ?_
      · intro Hb Da acc i x hst hx
        have hb := hvb.2 x (take_mem hx)
        exact ⟨_, rfl, fun _ _ _ _ _ => vts_nil, fun _ _ _ _ _ _ => ve_mul (ve_var 5 rfl) (ve_var 14 rfl) (cmw (by omega) (by omega))⟩
      · rw [List.filter_eq_self.mpr (fun _ _ => rfl), List.map_map]
        rfl
      · rw [List.length_map]; omega
      · rw [List.length_map]; omega
      · refine gb_nil fun σ H' s' => ⟨ls ++ [spr d0 (vals.map (L * ·))], ⟨by rw [List.length_append, hll]; rfl, fun l hl => ?_⟩, ?_⟩
        · rcases List.mem_append.mp hl with hl | hl
          · exact hlo l hl
          · rw [List.mem_singleton.mp hl]
            refine ⟨spr_ok ⟨by rw [List.length_map]; omega, by rw [List.length_map]; omega, ?_⟩, by rw [spr_len, List.length_map]; omega, fun x hx => ?_⟩
            · rw [List.pairwise_map]
              exact hvb.1.imp fun {a b} hab => Int.mul_lt_mul_of_pos_left hab (by omega)
            · obtain ⟨v, hv, e⟩ := List.mem_map.mp (spr_val hx)
              have hb := hvb.2 v hv
              rw [← e]
              have h1 : 0 ≤ L * v := Int.mul_nonneg (by omega) hb.1
              have h2 : L * v ≤ 30 * v := Int.mul_le_mul_of_nonneg_right hL1 hb.1
              omega
        · refine sa_eq s' ?_ (by walk_at "WK")
          show [(pl, MO.ml _), _] = [(pl, MO.ml _), _]
          rw [List.map_append]
          rfl
    · obtain ⟨hll, hlo⟩ := hls
      rw [Int.toNat_natCast] at hll
      obtain ⟨d1, ld, ad⟩ := dig_at hdr (show 10 + k < 20 by omega)
      have hnz : (0 : Int) < (n : Int) := by omega
      refine gb_setLcR 15 10 n (fun j => decide (0 < (d1 : Int) / ((j : Int) + 1) % 3) || decide ((j : Int) = (d1 : Int) % (n : Int))) (fun j => .int (j : Int)) T.b_range (ve_var 4 rfl) (blkOk_by (own := [("_law_j", 10)]) rfl) (fun _ _ _ _ _ => tg_nm sc_law_house.nd) ?_ ?_ (by omega) rfl sc_law_house.nd (by decide) (by rfl)
      · intro Hb Da acc j hst hj
        refine ⟨fun _ _ _ _ _ => vts_one (vw_pt (vw_or (vt_gt (ve_mod (ve_div (ve_ixL (ve_var 3 rfl) (ve_add ve_int (ve_var 7 rfl)) ad) (ve_add (ve_var 10 rfl) ve_int) (cdw (by omega) (by omega))) ve_int (by decide)) ve_int) fun _ => vw_or1 (vt_eqI (ve_var 10 rfl) (ve_mod (ve_ixL (ve_var 3 rfl) (ve_add ve_int (ve_var 7 rfl)) ad) (ve_var 4 rfl) hnz)))), fun _ _ _ _ _ _ => ve_var 10 rfl⟩
      · obtain ⟨ot, hot⟩ : ∃ ot : List Nat, ot = (List.range n).filter fun (j : Nat) => decide (0 < (d1 : Int) / ((j : Int) + 1) % 3) || decide ((j : Int) = (d1 : Int) % (n : Int)) := ⟨_, rfl⟩
        rw [← hot]
        have hotv : ValsOk (ot.map fun (j : Nat) => (j : Int)) := by
          refine ⟨?_, ?_, ?_⟩
          · rw [List.length_map]
            have : d1 % n ∈ ot := by
              rw [hot]
              refine List.mem_filter.mpr ⟨List.mem_range.mpr (Nat.mod_lt _ (by omega)), ?_⟩
              simp
            exact List.length_pos_of_mem this
          · rw [List.length_map, hot]
            have := List.length_filter_le (fun (j : Nat) => decide (0 < (d1 : Int) / ((j : Int) + 1) % 3) || decide ((j : Int) = (d1 : Int) % (n : Int))) (List.range n)
            rw [List.length_range] at this
            omega
          · rw [List.pairwise_map, hot]
            refine List.Pairwise.imp (fun {a b} (h : a < b) => by show (a : Int) < (b : Int); omega) (List.Pairwise.filter _ List.pairwise_lt_range)
        have hotb : ∀ x ∈ ot, x < n := fun x hx => by
          rw [hot] at hx
          exact List.mem_range.mp (List.mem_filter.mp hx).1
        refine gb_set 16 (ve_mod (ve_div (ve_ixL (ve_var 2 rfl) ve_int a2) (ve_add (ve_var 7 rfl) ve_int) (cdw (by omega) (by omega))) ve_int (by decide)) ?_ sc_law_house.nd
        obtain ⟨pr, hpr0, hpr1, hprt, hprf⟩ : ∃ pr : Int, 0 ≤ pr ∧ pr ≤ 30 ∧ ((s6 : Int) % 6 = 1 → pr = (s2 : Int) / ((k : Int) + 1) % 31) ∧ (¬ (s6 : Int) % 6 = 1 → pr = (s2 : Int) / ((k : Int) + 1) % 4) := by
          by_cases c : (s6 : Int) % 6 = 1
          · exact ⟨_, by omega, by omega, fun _ => rfl, fun z => absurd c z⟩
          · exact ⟨_, by omega, by omega, fun z => absurd z c, fun _ => rfl⟩
        refine gb_ifJ ⟨H, os, [(pl, .ml (ls.map encS)), (pw, .ml (ws.map encW))], [.dat (.int c0), .dat (.int c1), .dat (encN sz), .dat (encN dr), .dat (.int (n : Int)), .dat (.int L), .val (.ref pw), .dat (.int k), .val (.ref pl), .any, .any, .any, .any, .any, .any, .dat (.list (ot.map fun (j : Nat) => PyData.int (j : Int))), .dat (.int pr), .any, .any]⟩ (vt_eqI (ve_mod (ve_ixL (ve_var 2 rfl) ve_int a6) ve_int (by decide)) ve_int) (fun z => ?_) (fun z => ?_) ?_
        · have e := hprt (of_decide_eq_true z)
          subst e
          refine gb_set 16 (ve_mod (ve_div (ve_ixL (ve_var 2 rfl) ve_int a2) (ve_add (ve_var 7 rfl) ve_int) (cdw (by omega) (by omega))) ve_int (by decide)) ?_ sc_law_house.nd
          exact gb_fin rfl (by walk_at "WK")
        · have e := hprf (of_decide_eq_false z)
          subst e
          exact gb_fin rfl (by walk_at "WK")
        refine gb_frz 8 0 rfl rfl rfl ?_
        refine gb_app 6 0 rfl rfl (ve_tup (va_cons (ve_var 16 rfl) (va_cons (ve_var 8 rfl) (va_cons (ve_call ((df_law_spread T).up (by decide : 2 ≤ 2)) hr (va_cons (ve_ixL (ve_var 3 rfl) (ve_add ve_int (ve_var 7 rfl)) ad) (va_cons (ve_var 15 rfl) va_nil)) ⟨d1, ot.map fun (j : Nat) => (j : Int), by rw [List.map_map]; rfl, hotv.ne, hotv.len, rfl⟩) va_nil)))) (by rw [List.length_map]; omega) ?_
        refine gb_nil fun σ H' s' => ⟨ws ++ [⟨pr, ls, spr d1 (ot.map fun (j : Nat) => (j : Int))⟩], ⟨by rw [List.length_append, hwl]; rfl, fun w hw => ?_⟩, ?_⟩
        · rcases List.mem_append.mp hw with hw | hw
          · exact hwo w hw
          · rw [List.mem_singleton.mp hw]
            refine ⟨hpr0, hpr1, by show ls.length ≤ 3; omega, hlo, spr_ok hotv, by rw [spr_len]; exact hotv.len, fun x hx => ?_⟩
            obtain ⟨v, hv, e⟩ := List.mem_map.mp (spr_val hx)
            have := hotb v hv
            rw [← e]
            show (0 : Int) ≤ (v : Int) ∧ (v : Int) < n
            omega
        · refine sa_eq s' ?_ (by walk_at "WK")
          show [(pw, MO.ml _)] = [(pw, MO.ml _)]
          rw [List.map_append]
          rfl
  · obtain ⟨hwl, hwo⟩ := hws
    rw [Int.toNat_natCast] at hwl
    refine gb_newL 17 (fun pt => ?_) sc_law_house.nd
    obtain ⟨nt, hnt, ent⟩ := pick_at [1, 2, 2, 3, 3, 4] (n := 6) rfl (v := (s3 : Int) % 6) (by omega) (by omega)
    have hntb : 1 ≤ nt ∧ nt ≤ 4 := by
      simp only [List.mem_cons, List.not_mem_nil, or_false] at hnt
      omega
    refine gb_range nt 7 (fun k (ts : List Trt) => ts.length = k ∧ ∀ t ∈ ts, TrtOk t) (fun ts => [(pt, .ml (ts.map encT)), (pw, .ml (ws.map encW))]) (fun _ => [.dat (.int c0), .dat (.int c1), .dat (encN sz), .dat (encN dr), .any, .any, .val (.ref pw), .any, .any, .any, .any, .any, .any, .any, .any, .any, .any, .val (.ref pt), .any]) T.b_range (by omega) (ve_ixL (ve_lst (va_cons ve_int (va_cons ve_int (va_cons ve_int (va_cons ve_int (va_cons ve_int (va_cons ve_int va_nil))))))) (ve_mod (ve_ixL (ve_var 2 rfl) ve_int a3) ve_int (by decide)) ent) (tg_nm sc_law_house.nd) ⟨[], ⟨rfl, fun w hw => by cases hw⟩, rfl, by walk_at "WK"⟩ (fun k ts hk hts => ?_) (fun ts hts => ?_) rfl
    · obtain ⟨htl, hto⟩ := hts
      obtain ⟨d2, ld, ad⟩ := dig_at hdr (show 15 + k < 20 by omega)
      refine gb_set 11 (ve_ixL (ve_var 3 rfl) (ve_add ve_int (ve_var 7 rfl)) ad) ?_ sc_law_house.nd
      refine gb_newL 18 (fun py => ?_) sc_law_house.nd
      obtain ⟨lay, hlen, hlay, h1, h2, h3, h4⟩ : ∃ lay : List Lay, lay.length ≤ 4 ∧ (∀ l ∈ lay, LayOk l) ∧ ((d2 : Int) % 4 = 1 → lay = [.limit ((d2 : Int) / 4 % 4)]) ∧ ((d2 : Int) % 4 = 2 → lay = [.share (mkRat ((d2 : Int) / 4 % 4) 3)]) ∧ ((d2 : Int) % 4 = 3 → lay = [.band ((d2 : Int) / 4 % 3) ((d2 : Int) / 4 % 3 + (d2 : Int) / 12 % 4)]) ∧ ((d2 : Int) % 4 = 0 → lay = []) := by
        have c : (d2 : Int) % 4 = 0 ∨ (d2 : Int) % 4 = 1 ∨ (d2 : Int) % 4 = 2 ∨ (d2 : Int) % 4 = 3 := by omega
        rcases c with c | c | c | c
        · exact ⟨[], by decide, (fun l hl => nomatch hl), fun z => by omega, fun z => by omega, fun z => by omega, fun _ => rfl⟩
        · refine ⟨_, ?_, fun l hl => ?_, fun _ => rfl, fun z => by omega, fun z => by omega, fun z => by omega⟩
          · exact Nat.le_of_ble_eq_true rfl
          · rw [List.mem_singleton.mp hl]
            exact ⟨by omega, by omega⟩
        · refine ⟨_, ?_, fun l hl => ?_, fun z => by omega, fun _ => rfl, fun z => by omega, fun z => by omega⟩
          · exact Nat.le_of_ble_eq_true rfl
          · rw [List.mem_singleton.mp hl]
            show Pr 1 (mkRat ((d2 : Int) / 4 % 4) 3)
            by_cases c0 : d2 / 4 % 4 = 0
            · rw [show (d2 : Int) / 4 % 4 = 0 by omega, Rat.zero_mkRat]
              exact Pr.zero
            · have := mk_pr (p := d2 / 4 % 4) (S := 3) (by omega) (by omega) (by omega)
              exact this.1
        · refine ⟨_, ?_, fun l hl => ?_, fun z => by omega, fun z => by omega, fun _ => rfl, fun z => by omega⟩
          · exact Nat.le_of_ble_eq_true rfl
          · rw [List.mem_singleton.mp hl]
            exact ⟨by omega, by omega, by omega⟩
      refine gb_ifJ ⟨H, os, [(py, .ml (lay.map encL)), (pt, .ml (ts.map encT)), (pw, .ml (ws.map encW))], [.dat (.int c0), .dat (.int c1), .dat (encN sz), .dat (encN dr), .any, .any, .val (.ref pw), .any, .any, .any, .any, .dat (.int d2), .any, .any, .any, .any, .any, .val (.ref pt), .val (.ref py)]⟩ (vt_eqI (ve_mod (ve_var 11 rfl) ve_int (by decide)) ve_int) (fun z => ?_) (fun z => ?_) ?_
      · have e := h1 (of_decide_eq_true z)
        subst e
        refine gb_app 18 0 rfl rfl (ve_tup (va_cons ve_str (va_cons (ve_mod (ve_div (ve_var 11 rfl) ve_int (cdw (by decide) (by decide))) ve_int (by decide)) va_nil))) (by decide) ?_
        exact gb_finM rfl rfl (by walk_at "WK")
      · have z1 : ¬ (d2 : Int) % 4 = 1 := of_decide_eq_false z
        refine gb_if (vt_eqI (ve_mod (ve_var 11 rfl) ve_int (by decide)) ve_int) (fun z => ?_) (fun z => ?_)
        · have e := h2 (of_decide_eq_true z)
          subst e
          refine gb_app 18 0 rfl rfl (ve_tup (va_cons ve_str (va_cons (ve_call ((df_law_fraction T).up (by decide : 1 ≤ 2)) hr (va_cons (ve_mod (ve_div (ve_var 11 rfl) ve_int (cdw (by decide) (by decide))) ve_int (by decide)) (va_cons ve_int va_nil)) ⟨(d2 : Int) / 4 % 4, 3, rfl, by decide, Nat.lt_of_lt_of_le (show (3 : Nat) < 2 ^ 2 by decide) (Nat.pow_le_pow_right (by decide) (by decide)), rfl⟩) va_nil))) (by decide) ?_
          exact gb_thn rfl (gb_finM rfl rfl (by walk_at "WK"))
        · have z2 : ¬ (d2 : Int) % 4 = 2 := of_decide_eq_false z
          refine gb_if (vt_eqI (ve_mod (ve_var 11 rfl) ve_int (by decide)) ve_int) (fun z => ?_) (fun z => ?_)
          · have e := h3 (of_decide_eq_true z)
            subst e
            refine gb_app 18 0 rfl rfl (ve_tup (va_cons ve_str (va_cons (ve_mod (ve_div (ve_var 11 rfl) ve_int (cdw (by decide) (by decide))) ve_int (by decide)) (va_cons (ve_add (ve_mod (ve_div (ve_var 11 rfl) ve_int (cdw (by decide) (by decide))) ve_int (by decide)) (ve_mod (ve_div (ve_var 11 rfl) ve_int (cdw (by decide) (by decide))) ve_int (by decide))) va_nil)))) (by decide) ?_
            exact gb_thn rfl (gb_thn rfl (gb_finM rfl rfl (by walk_at "WK")))
          · have z3 : ¬ (d2 : Int) % 4 = 3 := of_decide_eq_false z
            have e := h4 (by omega)
            subst e
            exact gb_thn rfl (gb_thn rfl (gb_finM rfl rfl (by walk_at "WK")))
      refine gb_frz 18 0 rfl rfl rfl ?_
      refine gb_app 17 0 rfl rfl (ve_tup (va_cons (ve_mod (ve_div (ve_var 11 rfl) ve_int (cdw (by decide) (by decide))) ve_int (by decide)) (va_cons (ve_var 18 rfl) va_nil))) (by rw [List.length_map]; omega) ?_
      refine gb_nil fun σ H' s' => ⟨ts ++ [((d2 : Int) / 48 % 3, lay)], ⟨by rw [List.length_append, htl]; rfl, fun t ht => ?_⟩, ?_⟩
      · rcases List.mem_append.mp ht with ht | ht
        · exact hto t ht
        · rw [List.mem_singleton.mp ht]
          exact ⟨by show (0 : Int) ≤ (d2 : Int) / 48 % 3; omega, by show (d2 : Int) / 48 % 3 ≤ 1000; omega, hlen, hlay⟩
      · refine sa_eq s' ?_ (by walk_at "WK")
        show [(pt, MO.ml _), _] = [(pt, MO.ml _), _]
        rw [List.map_append]
        rfl
    · obtain ⟨htl, hto⟩ := hts
      refine gb_frz 6 1 rfl rfl rfl ?_
      refine gb_frz 17 0 rfl rfl rfl ?_
      refine gb_retG (Po := qHouse _) (ve_tup (va_cons (ve_var 6 rfl) (va_cons (ve_var 17 rfl) va_nil))) ⟨⟨ws, ts⟩, ⟨by show 1 ≤ ws.length; omega, by show ws.length ≤ 4; omega, by show 1 ≤ ts.length; omega, by show ts.length ≤ 4; omega, fun w hw => ?_, hto⟩, rfl⟩
      show WthOk ws.length w
      rw [hwl]
      exact hwo w hw
end
end LC

namespace LC
open PySem PySem.Spec PyProof.Rows L2 DL
local macro_rules | `(tactic| walk_at "WK") => `(tactic| repeat (first | exact Weak.nil | refine Weak.same ?_ | refine Weak.drop ?_))

/-! ### the law's year -/
def totL (ls : List Spread) : Spread := ls.foldl (fun t l => conv t l) [(0, 1)]
def lchP (w : Wth) (t : Trt) : Spread := (totL w.lines).map fun x => (w.premium - t.1 - rem t x.1, x.2)
def lch (h : Hse) (j i : Nat) : Spread := match h.ws[j]?, h.ts[i]? with
  | some w, some t => lchP w t
  | _, _ => []
theorem td_stepC {k : Nat} {t l : Spread} (h : TD k t) (hl : LineOk l) : TD (k + 1) (conv t l) := by
  have hs := conv_sub h.sub hl.sp.sub
  refine ⟨hs.pr, ?_, ?_, fun x hx => ?_⟩
  · rw [conv_tot, h.tot, hl.sp.tot, Rat.mul_one]
  · rw [conv_len, Nat.pow_succ]
    exact Nat.mul_le_mul h.len hl.len
  · obtain ⟨a, ha, hy⟩ := List.mem_flatMap.mp hx
    obtain ⟨b, hb, rfl⟩ := List.mem_map.mp hy
    have h1 := h.val a ha
    have h2 := hl.val b hb
    show 0 ≤ a.1 + b.1 ∧ a.1 + b.1 ≤ 1000 * ((k + 1 : Nat) : Int)
    omega
theorem td_foldC : ∀ (ls : List Spread) (k : Nat) (t : Spread), TD k t → (∀ l ∈ ls, LineOk l) → TD (k + ls.length) (ls.foldl (fun t l => conv t l) t)
  | [], _, _, h, _ => h
  | l :: ls, k, t, h, hl => by
    have h1 := td_foldC ls (k + 1) _ (td_stepC h (hl l List.mem_cons_self)) fun m hm => hl m (List.mem_cons_of_mem _ hm)
    rw [List.length_cons, show k + (ls.length + 1) = k + 1 + ls.length by omega]
    exact h1
/-- gathering changes no sum -/
theorem dmg_sum : ∀ (ls : List Spread) {k : Nat} {t u : Spread}, TD k t → TD k u → (∀ l ∈ ls, LineOk l) → (∀ g : Int → Rat, sumF (fun x => x.2 * g x.1) t = sumF (fun x => x.2 * g x.1) u) →
    ∀ g : Int → Rat, sumF (fun x => x.2 * g x.1) (ls.foldl (fun t l => gat (conv t l)) t) = sumF (fun x => x.2 * g x.1) (ls.foldl (fun t l => conv t l) u)
  | [], _, _, _, _, _, _, e, g => e g
  | l :: ls, k, t, u, ht, hu, hl, e, g => by
    have hll := hl l List.mem_cons_self
    refine dmg_sum ls (td_step ht hll) (td_stepC hu hll) (fun m hm => hl m (List.mem_cons_of_mem _ hm)) (fun g => ?_) g
    have hs := conv_sub ht.sub hll.sp.sub
    rw [(gat_ok hs.pr hs.tot).sum g, conv_sum, conv_sum]
    exact e fun v => sumF (fun y => y.2 * g (v + y.1)) l
theorem lchP_sum {n : Nat} {w : Wth} {t : Trt} (hw : WthOk n w) (ht : TrtOk t) (g : Int → Rat) : sumF (fun x => x.2 * g x.1) (lchP w t) = sumF (fun x => x.2 * g x.1) (chgP w t) := by
  rw [chgP_sum hw ht]
  unfold lchP
  rw [sumF_map]
  exact (dmg_sum w.lines td_zero td_zero hw.lines (fun g => rfl) fun v => g (w.premium - t.1 - rem t v)).symm
theorem lchP_ok {n : Nat} {w : Wth} {t : Trt} (hw : WthOk n w) (ht : TrtOk t) : ChgOk (lchP w t) := by
  have td := td_foldC w.lines 0 _ td_zero hw.lines
  rw [Nat.zero_add] at td
  refine ⟨fun x hx => ?_, ?_, ?_, fun x hx => ?_⟩
  · obtain ⟨y, hy, rfl⟩ := List.mem_map.mp hx
    exact ⟨(td.pr y hy).1.up hw.len, (td.pr y hy).2⟩
  · have h1 := lchP_sum hw ht fun _ => 1
    rw [sum_one, sum_one, (chgP_ok hw ht).tot] at h1
    exact h1
  · unfold lchP
    rw [List.length_map]
    exact td.len27 hw.len
  · obtain ⟨v, hv, rfl⟩ := List.mem_map.mp hx
    have h1 := (rem_bd ht.lay (td.val v hv).1).1
    have h2 := hw.p1
    have h3 := ht.p0
    show w.premium - t.1 - rem t v.1 ≤ 30
    omega
theorem lch_eq {h : Hse} {j i : Nat} (hj : j < h.ws.length) (hi : i < h.ts.length) : lch h j i = lchP h.ws[j] h.ts[i] := by
  unfold lch
  rw [List.getElem?_eq_getElem hj, List.getElem?_eq_getElem hi]
theorem lch_ok {h : Hse} (hh : HseOk h) {j i : Nat} (hj : j < h.ws.length) (hi : i < h.ts.length) : ChgOk (lch h j i) := by
  rw [lch_eq hj hi]
  exact lchP_ok (hh.ws _ (List.getElem_mem hj)) (hh.ts _ (List.getElem_mem hi))
theorem lch_sum {h : Hse} (hh : HseOk h) {j i : Nat} (hj : j < h.ws.length) (hi : i < h.ts.length) (g : Int → Rat) : sumF (fun x => x.2 * g x.1) (lch h j i) = sumF (fun x => x.2 * g x.1) (chg h j i) := by
  rw [lch_eq hj hi, chg_eq hj hi]
  exact lchP_sum (hh.ws _ (List.getElem_mem hj)) (hh.ts _ (List.getElem_mem hi)) g
/-- the year's ends -/
def lyr (h : Hse) (s : Stt) (t : Nat) : List Ev := (lch h s.2.toNat t).flatMap fun x => (tns h s.2.toNat).map fun y => ((s.1 + x.1, y.1), x.2 * y.2)
abbrev enc3 (e : Ev) : PyData := .tuple [.int e.1.1, .int e.1.2, fr e.2]
theorem lyr_sum {h : Hse} (hh : HseOk h) {s : Stt} (hs : StOk h s) {t : Nat} (ht : t < h.ts.length) (F : Stt → Rat) : sumF (fun e => e.2 * F e.1) (lyr h s t) = sumF (fun x => x.2 * sumF (fun y => y.2 * F (s.1 + x.1, y.1)) (tns h s.2.toNat)) (chg h s.2.toNat t) := by
  unfold lyr
  rw [sumF_flatMap, ← lch_sum hh hs.lt ht fun c => sumF (fun y => y.2 * F (s.1 + c, y.1)) (tns h s.2.toNat)]
  refine sumF_congr fun x _ => ?_
  rw [sumF_map, ← sumF_mul]
  refine sumF_congr fun y _ => ?_
  show x.2 * y.2 * F (s.1 + x.1, y.1) = x.2 * (y.2 * F (s.1 + x.1, y.1))
  grind
theorem lyr_step {h : Hse} (hh : HseOk h) {s : Stt} (hs : StOk h s) {t : Nat} (ht : t < h.ts.length) (f : Stt → Rat) : sumF (fun e => e.2 * (if e.1.1 < 0 then 1 else f e.1)) (lyr h s t) = stepV h f s t := by
  rw [lyr_sum hh hs ht fun k => if k.1 < 0 then 1 else f k]
  refine sumF_congr fun x _ => ?_
  unfold stp1
  congr 1
  by_cases h0 : s.1 + x.1 < 0
  · rw [if_pos h0, sumF_congr (g := (·.2)) fun y _ => ?_]
    · exact (tns_ok hh hs.lt).sp.tot
    · show y.2 * (if s.1 + x.1 < 0 then 1 else f (s.1 + x.1, y.1)) = y.2
      rw [if_pos h0, Rat.mul_one]
  · rw [if_neg h0]
    refine sumF_congr fun y _ => ?_
    show y.2 * (if s.1 + x.1 < 0 then 1 else f (s.1 + x.1, y.1)) = y.2 * f (s.1 + x.1, y.1)
    rw [if_neg h0]
structure LyrOk (h : Hse) (s : Stt) (es : List Ev) : Prop where
  pr : ∀ e ∈ es, Pr 4 e.2 ∧ 0 < e.2
  tot : sumF (·.2) es = 1
  ok : ∀ e ∈ es, ¬ e.1.1 < 0 → StOk h e.1 ∧ e.1.1 ≤ s.1 + 30
  len : es.length ≤ 108
theorem lyr_len (h : Hse) (s : Stt) (t : Nat) : (lyr h s t).length = (lch h s.2.toNat t).length * (tns h s.2.toNat).length := by
  unfold lyr
  generalize lch h s.2.toNat t = cs
  induction cs with
  | nil => simp
  | cons z zs ih => rw [List.flatMap_cons, List.length_append, ih, List.length_map, List.length_cons, Nat.add_mul, Nat.one_mul, Nat.add_comm]
theorem lyr_ok {h : Hse} (hh : HseOk h) {s : Stt} (hs : StOk h s) {t : Nat} (ht : t < h.ts.length) : LyrOk h s (lyr h s t) := by
  have lo := lch_ok hh hs.lt ht
  have to_ := tns_ok hh hs.lt
  refine ⟨fun e he => ?_, ?_, fun e he h0 => ?_, ?_⟩
  · obtain ⟨x, hx, he⟩ := List.mem_flatMap.mp he
    obtain ⟨y, hy, rfl⟩ := List.mem_map.mp he
    exact ⟨(lo.pr x hx).1.mul (to_.sp.pr y hy).1, Rat.mul_pos (lo.pr x hx).2 (to_.sp.pr y hy).2⟩
  · have h1 := lyr_sum hh hs ht fun _ => 1
    have e1 : sumF (fun e : Ev => e.2 * 1) (lyr h s t) = sumF (·.2) (lyr h s t) := sum_one _
    rw [e1] at h1
    rw [h1, sumF_congr (g := (·.2)) fun x _ => ?_]
    · exact (chg_ok hh hs.lt ht).tot
    · have e2 : sumF (fun y : Int × Rat => y.2 * 1) (tns h s.2.toNat) = sumF (·.2) (tns h s.2.toNat) := sum_one _
      rw [e2, to_.sp.tot, Rat.mul_one]
  · obtain ⟨x, hx, he⟩ := List.mem_flatMap.mp he
    obtain ⟨y, hy, rfl⟩ := List.mem_map.mp he
    have := lo.val x hx
    have h0 : ¬ s.1 + x.1 < 0 := h0
    exact ⟨next_ok hh hs (by omega) hy, by show s.1 + x.1 ≤ s.1 + 30; omega⟩
  · rw [lyr_len]
    exact Nat.mul_le_mul lo.len to_.len
def rYear (ds : List PyData) (d : PyData) : Prop := ∃ (h : Hse) (s : Stt) (t : Nat), ds = [encH h, .int s.1, .int s.2, .int (t : Int)] ∧ HseOk h ∧ StOk h s ∧ t < h.ts.length ∧ d = .list ((lyr h s t).map enc3)
def rLCh (ds : List PyData) (d : PyData) : Prop := ∃ (h : Hse) (j t : Nat), ds = [encH h, .int (j : Int), .int (t : Int)] ∧ HseOk h ∧ j < h.ws.length ∧ t < h.ts.length ∧ d = encS (lch h j t)
section
variable {P : Program} {w : World} {K : PySem.W.Frag} {mg : Str → Option Value} {base : Heap}
theorem df_law_remaining (T : Tx K mg) : DF P w K mg base "_law_remaining" 1 rRemain := by
  obtain ⟨f, fd, hm, F⟩ := T.g_law_remaining
  refine df_mk hm F sc_law_remaining (bind2 F) (fun ds d h => by obtain ⟨n, x, rfl, _⟩ := h; rfl) fun cdv A outer s H E os ds d hr h => ?_
  obtain ⟨t, x, rfl, ht, hx0, hx1, rfl⟩ := h
  refine gb_fold (.nm 2) t.2 encL (fun x l => layF l x) x (fun _ => []) (fun y => [.dat (encT t), .dat (.int y), .any]) (ve_ixT (ve_var 0 rfl) ve_int (d := .list (t.2.map encL)) rfl) (tg_nm sc_law_remaining.nd) ⟨rfl, by walk_at "WK"⟩ (fun Hb hb k l hk2 => ⟨_, rfl, ?_⟩) ?_ rfl
  · have hb1 := fold_bd ht.lay hx0 k
    have hl := ht.lay l (take_mem hk2)
    generalize (t.2.take k).foldl (fun x l => layF l x) x = y at hb1
    cases l with
    | share q =>
      have hs := hl.sm (by decide : 1 ≤ 45)
      refine gb_if (vt_eq (k' := true) (vt_eqS (ve_ixT (ve_var 2 rfl) ve_int (d := .str "share") rfl) ve_str) (by decide)) (fun _ => ?_) fun z => nomatch z
      refine gb_set 1 (ve_eq (ve_sub ve_int (ve_div (ve_sub ve_int (ve_mul (ve_var 1 rfl) (ve_fr0 (ve_ixT (ve_var 2 rfl) ve_int (d := fr q) rfl)) ?_)) (ve_fr1 (ve_ixT (ve_var 2 rfl) ve_int (d := fr q) rfl)) ?_)) (d := .int (layF (.share q) y)) ?_) ?_ sc_law_remaining.nd
      · have := hs.log.2
        have h3 : y.natAbs.log2 < 1000 := by
          by_cases e : y.natAbs = 0
          · rw [e]; decide
          · rw [Nat.log2_lt e]
            have h5 : y.natAbs < 2 ^ 20 := by omega
            exact Nat.lt_of_lt_of_le h5 (Nat.pow_le_pow_right (by decide) (by decide))
        show y.natAbs.log2 + q.num.natAbs.log2 < 1000000
        omega
      · have := hs.log.1
        have := q.den_pos
        exact ⟨by omega, by show q.den.log2 < 9000; omega⟩
      · congr 1
        show 0 - (0 - y * q.num) / (q.den : Int) = -((-y * q.num) / (q.den : Int))
        rw [Int.zero_sub, Int.zero_sub, Int.neg_mul]
      · exact gb_thn rfl (gb_fin rfl (by walk_at "WK"))
    | limit n =>
      refine gb_if (vt_eq (k' := false) (vt_eqS (ve_ixT (ve_var 2 rfl) ve_int (d := .str "limit") rfl) ve_str) (by decide)) (fun z => nomatch z) fun _ => ?_
      refine gb_if (vt_eq (k' := true) (vt_eqS (ve_ixT (ve_var 2 rfl) ve_int (d := .str "limit") rfl) ve_str) (by decide)) (fun _ => ?_) fun z => nomatch z
      refine gb_set 1 (ve_min2 rfl T.b_min (ve_var 1 rfl) (ve_ixT (ve_var 2 rfl) ve_int (d := .int n) rfl)) ?_ sc_law_remaining.nd
      exact gb_thn rfl (gb_thn rfl (gb_fin rfl (by walk_at "WK")))
    | band a b =>
      refine gb_if (vt_eq (k' := false) (vt_eqS (ve_ixT (ve_var 2 rfl) ve_int (d := .str "band") rfl) ve_str) (by decide)) (fun z => nomatch z) fun _ => ?_
      refine gb_if (vt_eq (k' := false) (vt_eqS (ve_ixT (ve_var 2 rfl) ve_int (d := .str "band") rfl) ve_str) (by decide)) (fun z => nomatch z) fun _ => ?_
      refine gb_set 1 (ve_add (ve_sub (ve_var 1 rfl) (ve_min2 rfl T.b_min (ve_var 1 rfl) (ve_ixT (ve_var 2 rfl) ve_int (d := .int b) rfl))) (ve_min2 rfl T.b_min (ve_var 1 rfl) (ve_ixT (ve_var 2 rfl) ve_int (d := .int a) rfl))) ?_ sc_law_remaining.nd
      exact gb_thn rfl (gb_thn rfl (gb_fin rfl (by walk_at "WK")))
  · exact gb_ret (ve_var 1 rfl)
theorem df_law_changes (T : Tx K mg) : DF P w K mg base "_law_changes" 3 rLCh := by
  obtain ⟨f, fd, hm, F⟩ := T.g_law_changes
  refine df_mk hm F sc_law_changes (bind3 F) (fun ds d h => by obtain ⟨n, x, y, rfl, _⟩ := h; rfl) fun cdv A outer s H E os ds d hr h => ?_
  obtain ⟨h, j, i, rfl, hh, hj, hi, rfl⟩ := h
  have ej : h.ws[j]? = some h.ws[j] := List.getElem?_eq_getElem hj
  have ei : h.ts[i]? = some h.ts[i] := List.getElem?_eq_getElem hi
  rw [lch_eq hj hi]
  generalize h.ws[j] = wt at ej
  generalize h.ts[i] = tr at ei
  have hw := hh.ws wt (take_mem ej)
  have ht := hh.ts tr (take_mem ei)
  have at0 : atI (h.ws.map encW) (j : Int) = some (encW wt) := atI_nat (by rw [List.getElem?_map, ej]; rfl)
  have at1 : atI (h.ts.map encT) (i : Int) = some (encT tr) := atI_nat (by rw [List.getElem?_map, ei]; rfl)
  refine gb_unpack (.three 3 4 5) (tg_three rfl sc_law_changes.nd) (ve_ixL (ve_ixT (ve_var 0 rfl) ve_int (d := .list (h.ws.map encW)) rfl) (ve_var 1 rfl) at0) rfl ?_
  refine gb_set 6 (ve_lst (va_cons (ve_tup (va_cons ve_int (va_cons (ve_tup (va_cons ve_int (va_cons ve_int va_nil))) va_nil))) va_nil)) ?_ sc_law_changes.nd
  refine gb_fold (.nm 7) wt.lines encS (fun t l => conv t l) [(0, 1)] (fun _ => []) (fun t => [.dat (encH h), .dat (.int j), .dat (.int i), .dat (.int wt.premium), .dat (.list (wt.lines.map encS)), .dat (encS wt.turns), .dat (encS t), .any, .any, .any, .any, .any, .any, .any]) (ve_var 4 rfl) (tg_nm sc_law_changes.nd) ⟨rfl, by walk_at "WK"⟩ (fun Hb hb k l hk2 => ⟨_, rfl, ?_⟩) ?_ rfl
  · have hl := hw.lines l (take_mem hk2)
    have hk3 := (List.getElem?_eq_some_iff.mp hk2).1
    have hwl := hw.len
    have t1 := td_foldC (wt.lines.take k) 0 _ td_zero fun l m => hw.lines l ((List.take_sublist k _).subset m)
    rw [Nat.zero_add, List.length_take, Nat.min_eq_left (by omega)] at t1
    generalize (wt.lines.take k).foldl (fun t l => conv t l) [(0, 1)] = t at t1
    have tl := t1.len27 (by omega)
    refine gb_newL 8 (fun q => ?_) sc_law_changes.nd
    refine gb_fold (.two 9 10) t encI (fun acc x => acc ++ l.map fun y => (x.1 + y.1, x.2 * y.2)) [] (fun acc => [(q, .ml (acc.map encI))]) (fun _ => [.dat (encH h), .dat (.int j), .dat (.int i), .dat (.int wt.premium), .dat (.list (wt.lines.map encS)), .dat (encS wt.turns), .any, .dat (encS l), .val (.ref q), .any, .any, .any, .any, .any]) (ve_var 6 rfl) (tg_two rfl sc_law_changes.nd) ⟨rfl, by walk_at "WK"⟩ (fun Hb2 hb2 a x ha => ⟨_, rfl, ?_⟩) ?_ rfl
    · have hx := take_mem ha
      have hal := (List.getElem?_eq_some_iff.mp ha).1
      have accl : ∀ (xs : List (Int × Rat)) (acc : Spread), (xs.foldl (fun acc x => acc ++ l.map fun y => (x.1 + y.1, x.2 * y.2)) acc).length = acc.length + xs.length * l.length := by
        intro xs
        induction xs with
        | nil => intro acc; simp
        | cons x xs ih => intro acc; rw [List.foldl_cons, ih, List.length_append, List.length_map, List.length_cons, Nat.add_mul]; omega
      have al := accl (t.take a) []
      rw [List.length_take, Nat.min_eq_left (by omega)] at al
      have al2 : ((t.take a).foldl (fun acc x => acc ++ l.map fun y => (x.1 + y.1, x.2 * y.2)) []).length ≤ 27 * 3 := by rw [al]; simp only [List.length_nil, Nat.zero_add]; exact Nat.mul_le_mul (by omega) hl.len
      generalize (t.take a).foldl (fun acc x => acc ++ l.map fun y => (x.1 + y.1, x.2 * y.2)) [] = acc at al2
      refine gb_fold (.two 11 12) l encI (fun acc y => acc ++ [(x.1 + y.1, x.2 * y.2)]) acc (fun acc => [(q, .ml (acc.map encI))]) (fun _ => [.dat (encH h), .dat (.int j), .dat (.int i), .dat (.int wt.premium), .dat (.list (wt.lines.map encS)), .dat (encS wt.turns), .any, .dat (encS l), .val (.ref q), .dat (.int x.1), .dat (fr x.2), .any, .any, .any]) (ve_var 7 rfl) (tg_two rfl sc_law_changes.nd) ⟨rfl, by walk_at "WK"⟩ (fun Hb3 hb3 b y hb' => ⟨_, rfl, ?_⟩) ?_ rfl
      · have hy := take_mem hb'
        have hbl := (List.getElem?_eq_some_iff.mp hb').1
        have hll := hl.len
        have bl : ((l.take b).foldl (fun acc y => acc ++ [(x.1 + y.1, x.2 * y.2)]) acc).length = acc.length + b := by
          have : ∀ (ys : List (Int × Rat)) (acc : Spread), (ys.foldl (fun acc y => acc ++ [(x.1 + y.1, x.2 * y.2)]) acc).length = acc.length + ys.length := by
            intro ys
            induction ys with
            | nil => intro acc; simp
            | cons y ys ih => intro acc; rw [List.foldl_cons, ih, List.length_append, List.length_singleton, List.length_cons]; omega
          rw [this, List.length_take, Nat.min_eq_left (by omega)]
        generalize (l.take b).foldl (fun acc y => acc ++ [(x.1 + y.1, x.2 * y.2)]) acc = acc2 at bl
        refine gb_app 8 0 rfl rfl (ve_tup (va_cons (ve_add (ve_var 9 rfl) (ve_var 11 rfl)) (va_cons (ve_call ((df_law_times T).up (by decide : 2 ≤ 2)) hr (va_cons (ve_var 10 rfl) (va_cons (ve_var 12 rfl) va_nil)) ⟨x.2, y.2, rfl, (t1.pr x hx).1.sm (by omega), (hl.sp.pr y hy).1.sm (by decide), rfl⟩) va_nil))) (by rw [List.length_map]; omega) ?_
        refine gb_finM rfl ?_ (by walk_at "WK")
        show [(q, MO.ml _)] = [(q, MO.ml _)]
        rw [List.map_append]
        rfl
      · have e1 : ∀ (ys : List (Int × Rat)) (acc : Spread), ys.foldl (fun acc y => acc ++ [(x.1 + y.1, x.2 * y.2)]) acc = acc ++ ys.map fun y => (x.1 + y.1, x.2 * y.2) := by
          intro ys
          induction ys with
          | nil => intro acc; simp
          | cons y ys ih => intro acc; rw [List.foldl_cons, ih, List.map_cons, List.append_assoc]; rfl
        rw [e1]
        exact gb_finM rfl rfl (by walk_at "WK")
    · have e2 : ∀ (xs : List (Int × Rat)) (acc : Spread), xs.foldl (fun acc x => acc ++ l.map fun y => (x.1 + y.1, x.2 * y.2)) acc = acc ++ conv xs l := by
        intro xs
        induction xs with
        | nil => intro acc; simp [conv]
        | cons x xs ih => intro acc; rw [List.foldl_cons, ih, List.append_assoc]; rfl
      rw [e2, List.nil_append]
      refine gb_frz 8 0 rfl rfl rfl ?_
      refine gb_set 6 (ve_var 8 rfl) ?_ sc_law_changes.nd
      exact gb_fin rfl (by walk_at "WK")
  · have td := td_foldC wt.lines 0 _ td_zero hw.lines
    rw [Nat.zero_add] at td
    have tl := td.len27 hw.len
    have hwl := hw.len
    refine gb_set 13 (ve_ixT (ve_ixL (ve_ixT (ve_var 0 rfl) ve_int (d := .list (h.ts.map encT)) rfl) (ve_var 2 rfl) at1) ve_int (d := .int tr.1) rfl) ?_ sc_law_changes.nd
    refine gb_ret (ve_eq (ve_lc (.two 9 10) (wt.lines.foldl (fun t l => conv t l) [(0, 1)]) encI (fun _ => true) (fun x => encI (wt.premium - tr.1 - rem tr x.1, x.2)) (ve_var 6 rfl) (blkOk_by (own := [("_law_amount", 9), ("_law_chance", 10)]) rfl) (fun _ _ _ _ _ => tg_two rfl sc_law_changes.nd) ?_ (Nat.le_trans tl (by decide)) rfl sc_law_changes.nd (by decide)) ?_)
    · intro Hb Da acc a x hst hx
      have hv := td.val x (take_mem hx)
      exact ⟨_, rfl, fun _ _ _ _ _ => vts_nil, fun _ _ _ _ _ _ => ve_tup (va_cons (ve_sub (ve_sub (ve_var 3 rfl) (ve_var 13 rfl)) (ve_call ((df_law_remaining T).up (by decide : 1 ≤ 2)) hr (va_cons (ve_ixL (ve_ixT (ve_var 0 rfl) ve_int (d := .list (h.ts.map encT)) rfl) (ve_var 2 rfl) at1) (va_cons (ve_var 9 rfl) va_nil)) ⟨tr, x.1, rfl, ht, hv.1, by omega, rfl⟩)) (va_cons (ve_var 10 rfl) va_nil))⟩
    · rw [List.filter_eq_self.mpr (fun _ _ => rfl)]
      show PyData.list _ = PyData.list _
      unfold lchP
      rw [List.map_map]
      rfl
theorem df_law_year (T : Tx K mg) : DF P w K mg base "_law_year" 4 rYear := by
  obtain ⟨f, fd, hm, F⟩ := T.g_law_year
  refine df_mk hm F sc_law_year (bind4 F) (fun ds d h => by obtain ⟨n, x, y, rfl, _⟩ := h; rfl) fun cdv A outer s H E os ds d hr h => ?_
  obtain ⟨h, st, t, rfl, hh, hs, ht, rfl⟩ := h
  have lo := lch_ok hh hs.lt ht
  have to_ := tns_ok hh hs.lt
  have lol := lo.len
  have tol := to_.len
  refine gb_newL 4 (fun q => ?_) sc_law_year.nd
  refine gb_fold (.two 5 6) (lch h st.2.toNat t) encI (fun (acc : List Ev) x => acc ++ (tns h st.2.toNat).map fun y => ((st.1 + x.1, y.1), x.2 * y.2)) [] (fun acc => [(q, .ml (acc.map enc3))]) (fun _ => [.dat (encH h), .dat (.int st.1), .dat (.int st.2), .dat (.int t), .val (.ref q), .any, .any, .any, .any])
    (ve_call (df_law_changes T) hr (va_cons (ve_var 0 rfl) (va_cons (ve_var 2 rfl) (va_cons (ve_var 3 rfl) va_nil))) ⟨h, st.2.toNat, t, by rw [← hs.cast], hh, hs.lt, ht, rfl⟩) (tg_two rfl sc_law_year.nd) ⟨rfl, by walk_at "WK"⟩ (fun Hb2 hb2 a x ha => ⟨_, rfl, ?_⟩) ?_ rfl
  · have hx := take_mem ha
    have hal := (List.getElem?_eq_some_iff.mp ha).1
    have accl : ∀ (xs : List (Int × Rat)) (acc : List Ev), (xs.foldl (fun (acc : List Ev) x => acc ++ (tns h st.2.toNat).map fun y => ((st.1 + x.1, y.1), x.2 * y.2)) acc).length = acc.length + xs.length * (tns h st.2.toNat).length := by
      intro xs
      induction xs with
      | nil => intro acc; simp
      | cons x xs ih => intro acc; rw [List.foldl_cons, ih, List.length_append, List.length_map, List.length_cons, Nat.add_mul]; omega
    have al := accl ((lch h st.2.toNat t).take a) []
    rw [List.length_take, Nat.min_eq_left (by omega)] at al
    have al2 : (((lch h st.2.toNat t).take a).foldl (fun (acc : List Ev) x => acc ++ (tns h st.2.toNat).map fun y => ((st.1 + x.1, y.1), x.2 * y.2)) []).length ≤ 27 * 4 := by rw [al]; simp only [List.length_nil, Nat.zero_add]; exact Nat.mul_le_mul (by omega) tol
    generalize ((lch h st.2.toNat t).take a).foldl (fun (acc : List Ev) x => acc ++ (tns h st.2.toNat).map fun y => ((st.1 + x.1, y.1), x.2 * y.2)) [] = acc at al2
    refine gb_fold (.two 7 8) (tns h st.2.toNat) encI (fun (acc : List Ev) y => acc ++ [((st.1 + x.1, y.1), x.2 * y.2)]) acc (fun acc => [(q, .ml (acc.map enc3))]) (fun _ => [.dat (encH h), .dat (.int st.1), .dat (.int st.2), .dat (.int t), .val (.ref q), .dat (.int x.1), .dat (fr x.2), .any, .any]) (ve_turns (ve_var 0 rfl) (ve_var 2 rfl) hs) (tg_two rfl sc_law_year.nd) ⟨rfl, by walk_at "WK"⟩ (fun Hb3 hb3 b y hb' => ⟨_, rfl, ?_⟩) ?_ rfl
    · have hy := take_mem hb'
      have hbl := (List.getElem?_eq_some_iff.mp hb').1
      have bl : (((tns h st.2.toNat).take b).foldl (fun (acc : List Ev) y => acc ++ [((st.1 + x.1, y.1), x.2 * y.2)]) acc).length = acc.length + b := by
        have : ∀ (ys : List (Int × Rat)) (acc : List Ev), (ys.foldl (fun (acc : List Ev) y => acc ++ [((st.1 + x.1, y.1), x.2 * y.2)]) acc).length = acc.length + ys.length := by
          intro ys
          induction ys with
          | nil => intro acc; simp
          | cons y ys ih => intro acc; rw [List.foldl_cons, ih, List.length_append, List.length_singleton, List.length_cons]; omega
        rw [this, List.length_take, Nat.min_eq_left (by omega)]
      generalize ((tns h st.2.toNat).take b).foldl (fun (acc : List Ev) y => acc ++ [((st.1 + x.1, y.1), x.2 * y.2)]) acc = acc2 at bl
      refine gb_app 4 0 rfl rfl (ve_tup (va_cons (ve_add (ve_var 1 rfl) (ve_var 5 rfl)) (va_cons (ve_var 7 rfl) (va_cons (ve_call ((df_law_times T).up (by decide : 2 ≤ 3)) hr (va_cons (ve_var 6 rfl) (va_cons (ve_var 8 rfl) va_nil)) ⟨x.2, y.2, rfl, (lo.pr x hx).1.sm (by decide), (to_.sp.pr y hy).1.sm (by decide), rfl⟩) va_nil)))) (by rw [List.length_map]; omega) ?_
      refine gb_finM rfl ?_ (by walk_at "WK")
      show [(q, MO.ml _)] = [(q, MO.ml _)]
      rw [List.map_append]
      rfl
    · have e1 : ∀ (ys : List (Int × Rat)) (acc : List Ev), ys.foldl (fun (acc : List Ev) y => acc ++ [((st.1 + x.1, y.1), x.2 * y.2)]) acc = acc ++ ys.map fun y => ((st.1 + x.1, y.1), x.2 * y.2) := by
        intro ys
        induction ys with
        | nil => intro acc; simp
        | cons y ys ih => intro acc; rw [List.foldl_cons, ih, List.map_cons, List.append_assoc]; rfl
      rw [e1]
      exact gb_finM rfl rfl (by walk_at "WK")
  · have e2 : ∀ (xs : List (Int × Rat)) (acc : List Ev), xs.foldl (fun (acc : List Ev) x => acc ++ (tns h st.2.toNat).map fun y => ((st.1 + x.1, y.1), x.2 * y.2)) acc = acc ++ xs.flatMap fun x => (tns h st.2.toNat).map fun y => ((st.1 + x.1, y.1), x.2 * y.2) := by
      intro xs
      induction xs with
      | nil => intro acc; simp
      | cons x xs ih => intro acc; rw [List.foldl_cons, ih, List.flatMap_cons, List.append_assoc]
    rw [e2, List.nil_append]
    exact gb_frz 4 0 rfl rfl rfl (gb_ret (ve_var 4 rfl))
end
end LC

namespace LC
open PySem PySem.Spec PyProof.Rows L2 DL
local macro_rules | `(tactic| walk_at "WK") => `(tactic| repeat (first | exact Weak.nil | refine Weak.same ?_ | refine Weak.drop ?_))

/-! ### the law's three recursions -/
/-- what an end of the year counts for -/
abbrev trm (f : Stt → Rat) (e : Ev) : Rat := e.2 * (if e.1.1 < 0 then 1 else f e.1)
theorem trm_ok {h : Hse} {s : Stt} {es : List Ev} (L : LyrOk h s es) {k : Nat} {f : Stt → Rat} (hf : ∀ e ∈ es, ¬ e.1.1 < 0 → Pr k (f e.1)) : (∀ e ∈ es, Pr (k + 4) (trm f e)) ∧ (0 : Rat) + sumF (trm f) es ≤ 1 := by
  have h1 : ∀ e ∈ es, Pr k (if e.1.1 < 0 then 1 else f e.1) := fun e he => by
    by_cases h0 : e.1.1 < 0
    · rw [if_pos h0]; exact Pr.whole
    · rw [if_neg h0]; exact hf e he h0
  refine ⟨fun e he => ?_, ?_⟩
  · have := (L.pr e he).1.mul (h1 e he)
    rw [Nat.add_comm] at this
    exact this
  · rw [Rat.zero_add]
    refine Rat.le_trans (sumF_le (g := (·.2)) fun e he => ?_) (by rw [L.tot]; exact Rat.le_refl)
    have := Rat.mul_le_mul_of_nonneg_left (h1 e he).one (L.pr e he).1.pos
    rw [Rat.mul_one] at this
    exact this
theorem u_plan {h : Hse} {pl : Plan} (n : Nat) (s : Stt) : U h (some pl) (n + 1) s = stepV h (U h (some pl) n) s (choose pl s) := rfl
theorem u_best {h : Hse} (hh : HseOk h) (n : Nat) (s : Stt) : U h none (n + 1) s = stepV h (U h none n) s (Ar h none n s) ∧ Ar h none n s < h.ts.length ∧ ∀ t, t < h.ts.length → U h none (n + 1) s ≤ stepV h (U h none n) s t := by
  obtain ⟨h1, h2, h3⟩ := pick_mem (u_pick hh none n s)
  exact ⟨h2, List.mem_range.mp h1, fun t ht => h3 t (List.mem_range.mpr ht)⟩
/-! the way -/
def wtr (h : Hse) (dr : List Nat) (n : Nat) (s : Stt) (past : Int) : Nat := dr.getD ((s.1 * 5 + s.2 * 7 + ((n + 1 : Nat) : Int) * 11 + past) % (dr.length : Int)).toNat 0 % h.ts.length
def Wy (h : Hse) (dr : List Nat) : Nat → Stt → Int → Rat
  | 0, _, _ => 0
  | n + 1, s, past => sumF (fun k : Nat => trm (fun z => Wy h dr n z (past * 3 + (k : Int) + 1)) ((lyr h s (wtr h dr n s past)).getD k ((0, 0), 0))) (List.range (lyr h s (wtr h dr n s past)).length)
theorem sum_range {α : Type} (d : α) (F : α → Rat) : ∀ l : List α, sumF (fun k => F (l.getD k d)) (List.range l.length) = sumF F l
  | [] => rfl
  | x :: l => by
    rw [List.length_cons, List.range_succ_eq_map]
    show F x + sumF _ ((List.range l.length).map Nat.succ) = F x + sumF F l
    rw [sumF_map, ← sum_range d F l]
    rfl
theorem wtr_lt {h : Hse} (hh : HseOk h) (dr : List Nat) (n : Nat) (s : Stt) (past : Int) : wtr h dr n s past < h.ts.length := Nat.mod_lt _ (by have := hh.t0; omega)
theorem getD_at {es : List Ev} {k : Nat} (hk : k < es.length) : ∃ e, es[k]? = some e ∧ es.getD k ((0, 0), 0) = e ∧ e ∈ es := ⟨es[k], List.getElem?_eq_getElem hk, by rw [List.getD_eq_getElem?_getD, List.getElem?_eq_getElem hk]; rfl, List.getElem_mem hk⟩
structure WyOk (h : Hse) (dr : List Nat) (n : Nat) (s : Stt) (past : Int) : Prop where
  term : ∀ k ∈ List.range (lyr h s (wtr h dr n s past)).length, Pr (4 * n + 4) (trm (fun z => Wy h dr n z (past * 3 + (k : Int) + 1)) ((lyr h s (wtr h dr n s past)).getD k ((0, 0), 0)))
  one : (0 : Rat) + Wy h dr (n + 1) s past ≤ 1
theorem wy_ok {h : Hse} (hh : HseOk h) (dr : List Nat) : ∀ (n : Nat) {s : Stt} (past : Int), StOk h s → Pr (4 * n) (Wy h dr n s past) ∧ U h none n s ≤ Wy h dr n s past ∧ WyOk h dr n s past := by
  intro n
  have key : ∀ (n : Nat), (∀ {s : Stt} (past : Int), StOk h s → Pr (4 * n) (Wy h dr n s past)) → ∀ {s : Stt} (past : Int), StOk h s → WyOk h dr n s past := by
    intro n ih s past hs
    have L := lyr_ok hh hs (wtr_lt hh dr n s past)
    have t1 : ∀ k ∈ List.range (lyr h s (wtr h dr n s past)).length, Pr (4 * n + 4) (trm (fun z => Wy h dr n z (past * 3 + (k : Int) + 1)) ((lyr h s (wtr h dr n s past)).getD k ((0, 0), 0))) ∧ trm (fun z => Wy h dr n z (past * 3 + (k : Int) + 1)) ((lyr h s (wtr h dr n s past)).getD k ((0, 0), 0)) ≤ ((lyr h s (wtr h dr n s past)).getD k ((0, 0), 0)).2 := fun k hk => by
      obtain ⟨e, _, e2, hm⟩ := getD_at (List.mem_range.mp hk)
      rw [e2]
      have p := L.pr e hm
      have q : Pr (4 * n) (if e.1.1 < 0 then 1 else Wy h dr n e.1 (past * 3 + (k : Int) + 1)) := by
        by_cases h0 : e.1.1 < 0
        · rw [if_pos h0]; exact Pr.whole
        · rw [if_neg h0]; exact ih _ (L.ok e hm h0).1
      have r := p.1.mul q
      rw [Nat.add_comm] at r
      refine ⟨r, ?_⟩
      have := Rat.mul_le_mul_of_nonneg_left q.one p.1.pos
      rw [Rat.mul_one] at this
      exact this
    refine ⟨fun k hk => (t1 k hk).1, ?_⟩
    rw [Rat.zero_add]
    refine Rat.le_trans (sumF_le fun k hk => (t1 k hk).2) ?_
    have := sum_range (((0, 0), 0) : Ev) (fun e => e.2) (lyr h s (wtr h dr n s past))
    rw [this, L.tot]
    exact Rat.le_refl
  induction n with
  | zero => exact fun {s} past hs => ⟨Pr.zero, Rat.le_refl, key 0 (fun _ _ => Pr.zero) past hs⟩
  | succ n ih =>
    have pr : ∀ {s : Stt} (past : Int), StOk h s → Pr (4 * (n + 1)) (Wy h dr (n + 1) s past) := fun {s} past hs => by
      have W := (ih past hs).2.2
      have one := W.one
      rw [Rat.zero_add] at one
      exact Pr.sum W.term one
    intro s past hs
    refine ⟨pr past hs, ?_, key (n + 1) pr past hs⟩
    have L := lyr_ok hh hs (wtr_lt hh dr n s past)
    refine Rat.le_trans ((u_best hh n s).2.2 _ (wtr_lt hh dr n s past)) ?_
    rw [← lyr_step hh hs (wtr_lt hh dr n s past)]
    rw [← sum_range (((0, 0), 0) : Ev)]
    refine sumF_le fun k hk => ?_
    obtain ⟨e, _, e2, hm⟩ := getD_at (List.mem_range.mp hk)
    rw [e2]
    have p := L.pr e hm
    refine Rat.mul_le_mul_of_nonneg_left ?_ p.1.pos
    by_cases h0 : e.1.1 < 0
    · rw [if_pos h0, if_pos h0]; exact Rat.le_refl
    · rw [if_neg h0, if_neg h0]; exact (ih _ (L.ok e hm h0).1).2.1
def rPlanned (N : Nat) (ds : List PyData) (d : PyData) : Prop := ∃ (h : Hse) (pl : Plan) (s : Stt) (n : Nat), ds = [encH h, encP pl, stD s, .int (n : Int)] ∧ HseOk h ∧ PlanOk h pl ∧ StOk h s ∧ n ≤ N ∧ n ≤ 10 ∧ d = fr (U h (some pl) n s)
def rLBest (N : Nat) (ds : List PyData) (d : PyData) : Prop := ∃ (h : Hse) (s : Stt) (n : Nat), ds = [encH h, stD s, .int (n : Int)] ∧ HseOk h ∧ StOk h s ∧ n ≤ N ∧ n ≤ 10 ∧ s.1 + 30 * (n : Int) ≤ 100 ∧ d = fr (U h none n s)
def rWay (N : Nat) (ds : List PyData) (d : PyData) : Prop := ∃ (h : Hse) (s : Stt) (n : Nat) (dr : List Nat) (past : Int), ds = [encH h, stD s, .int (n : Int), encN dr, .int past] ∧ HseOk h ∧ StOk h s ∧ n ≤ N ∧ n ≤ 10 ∧ s.1 + 30 * (n : Int) ≤ 1000 ∧ 0 < dr.length ∧ 0 ≤ past ∧ (past + 55) * 3 ^ n ≤ 1000000 ∧ d = fr (Wy h dr n s past)
section
variable {X : Cx} {S : SS} {e a b c o : Expr} {pos : Pos}
/-- row[min(state[0], len(row) - 1)] -/
theorem ve_chosen {row : List Nat} {s : Stt} {i t : Nat} {p1 p2 : Pos} (hc : X.calm = true) (hm : X.mg "min" = none) (hm2 : X.mg "len" = none) (hrow : VE X S a (.list (row.map fun (t : Nat) => PyData.int (t : Int)))) (hs : VE X S b (.int s.1)) (hl : VE X S c (.int ((row.length : Int) - 1)))
    (h1 : mnI s.1 ((row.length : Int) - 1) = (i : Int)) (h2 : row[i]? = some t) (hg : Gl X "min" := by rfl) (he : starEach [b, c] X.env = (false, eval b X.env) :: starEach [c] X.env := by rfl) (he2 : starEach [c] X.env = [(false, eval c X.env)] := by rfl)
    (hpl : (backTo p2 (starEach [c] X.env)).any (·.1) = false := by rfl) : VE X S (.Subscript a (.Call (.Name "min" p1) [b, c] [] p2) pos) (.int (t : Int)) :=
  ve_ixL hrow (ve_eq (ve_min2 hc hm hs hl hg he he2 hpl) (by show PyData.int (mnI s.1 ((row.length : Int) - 1)) = .int (i : Int); rw [h1])) (atI_nat (by rw [List.getElem?_map, h2]; rfl)) (fun _ _ => rfl)
end
section
variable {P : Program} {w : World} {K : PySem.W.Frag} {mg : Str → Option Value} {base : Heap}
theorem df_law_planned (T : Tx K mg) : ∀ N : Nat, DF P w K mg base "_law_planned" (5 + N) (rPlanned N) := by
  intro N
  induction N with
  | zero =>
    obtain ⟨f, fd, hm, F⟩ := T.g_law_planned
    refine df_mk hm F sc_law_planned (bind4 F) (fun ds d h => by obtain ⟨h, pl, s, n, rfl, _⟩ := h; rfl) fun cdv A outer s H E os ds d hr h => ?_
    obtain ⟨h, pl, st, n, rfl, hh, hpl, hs, hn, hn10, rfl⟩ := h
    have e : n = 0 := by omega
    subst e
    refine gb_if (vt_eq (k' := true) (vt_eqI (ve_var 3 rfl) ve_int) rfl) (fun _ => ?_) fun z => nomatch z
    exact gb_ret (ve_tup (va_cons ve_int (va_cons ve_int va_nil)))
  | succ N ih =>
    obtain ⟨f, fd, hm, F⟩ := T.g_law_planned
    refine df_mk hm F sc_law_planned (bind4 F) (fun ds d h => by obtain ⟨h, pl, s, n, rfl, _⟩ := h; rfl) fun cdv A outer s H E os ds d hr h => ?_
    obtain ⟨h, pl, st, n, rfl, hh, hpl, hs, hn, hn10, rfl⟩ := h
    have hr : Room (5 + N) _ := hr
    cases n with
    | zero =>
      refine gb_if (vt_eq (k' := true) (vt_eqI (ve_var 3 rfl) ve_int) rfl) (fun _ => ?_) fun z => nomatch z
      exact gb_ret (ve_tup (va_cons ve_int (va_cons ve_int va_nil)))
    | succ n =>
      refine gb_ifNo (vt_eq (vt_eqI (ve_var 3 rfl) ve_int) (by simp; omega)) ?_
      obtain ⟨row, g1, i, g2, g3, g4⟩ := choose_at hpl hs
      refine gb_set 4 (ve_ixL (ve_var 1 rfl) (ve_ixK1 (ve_var 2 rfl)) (d := .list (row.map fun (t : Nat) => PyData.int (t : Int))) ?_) ?_ sc_law_planned.nd
      · rw [hs.cast]
        exact atI_nat (by rw [List.getElem?_map, g1]; rfl)
      refine gb_set 5 (d := fr 0) (ve_tup (va_cons ve_int (va_cons ve_int va_nil))) ?_ sc_law_planned.nd
      have L := lyr_ok hh hs g4
      have TT := trm_ok L (k := 4 * n) (f := U h (some pl) n) fun e he h0 => u_pr hh (o := some pl) hpl n (L.ok e he h0).1
      refine gb_fold (.three 6 7 8) (lyr h st (choose pl st)) enc3 (fun v e => v + trm (U h (some pl) n) e) 0 (fun _ => []) (fun v => [.dat (encH h), .dat (encP pl), .dat (stD st), .dat (.int ((n + 1 : Nat) : Int)), .any, .dat (fr v), .any, .any, .any])
        (ve_call ((df_law_year T).up (by omega : 4 ≤ 5 + N)) hr (va_cons (ve_var 0 rfl) (va_cons (ve_ixK0 (ve_var 2 rfl)) (va_cons (ve_ixK1 (ve_var 2 rfl)) (va_cons (ve_chosen (s := st) rfl T.b_min T.b_len (ve_var 4 rfl) (ve_ixK0 (ve_var 2 rfl)) (ve_eq (ve_sub (ve_len T.b_len (ve_var 4 rfl)) ve_int) (by rw [List.length_map])) g2 g3) va_nil)))) ⟨h, st, choose pl st, rfl, hh, hs, g4, rfl⟩)
        (tg_three rfl sc_law_planned.nd) ⟨rfl, by walk_at "WK"⟩ (fun Hb hb j e hj => ⟨_, rfl, ?_⟩) ?_ rfl
      · have he := take_mem hj
        have p1 := loop_pr (Pr.zero (k := 4 * n + 4)) TT.1 TT.2 j
        generalize ((lyr h st (choose pl st)).take j).foldl (fun v e => v + trm (U h (some pl) n) e) 0 = v at p1
        have pe := L.pr e he
        by_cases h0 : e.1.1 < 0
        · refine gb_if (vt_eq (vt_lt (ve_var 6 rfl) ve_int) (decide_eq_true h0)) (fun _ => ?_) fun z => nomatch z
          refine gb_set 5 (ve_eq (ve_call ((df_law_plus T).up (by omega : 2 ≤ 5 + N)) hr (va_cons (ve_var 5 rfl) (va_cons (ve_var 8 rfl) va_nil)) ⟨v, e.2, rfl, p1.sm (by omega), pe.1.sm (by decide), rfl⟩) (?_ : fr (v + e.2) = fr (v + trm (U h (some pl) n) e))) (gb_thn rfl (gb_fin rfl (by walk_at "WK"))) sc_law_planned.nd
          unfold trm
          rw [if_pos h0, Rat.mul_one]
        · refine gb_if (vt_eq (vt_lt (ve_var 6 rfl) ve_int) (decide_eq_false h0)) (fun z => nomatch z) fun _ => ?_
          have so := (L.ok e he h0).1
          have pu := u_pr hh (o := some pl) hpl n so
          have pm := pe.1.mul pu
          refine gb_set 5 (ve_eq (ve_call ((df_law_plus T).up (by omega : 2 ≤ 5 + N)) hr (va_cons (ve_var 5 rfl) (va_cons (ve_call ((df_law_times T).up (by omega : 2 ≤ 5 + N)) hr (va_cons (ve_var 8 rfl) (va_cons (ve_call ih hr (va_cons (ve_var 0 rfl) (va_cons (ve_var 1 rfl) (va_cons (ve_tupK (i := e.1.1) (j := e.1.2) (va_cons (ve_var 6 rfl) (va_cons (ve_var 7 rfl) va_nil))) (va_cons (ve_eq (ve_sub (ve_var 3 rfl) ve_int) (d := .int (n : Int)) (by congr 1; omega)) va_nil)))) ⟨h, pl, e.1, n, rfl, hh, hpl, so, by omega, by omega, rfl⟩) va_nil)) ⟨e.2, _, rfl, pe.1.sm (by decide), pu.sm (by omega), rfl⟩) va_nil)) ⟨v, _, rfl, p1.sm (by omega), pm.sm (by omega), rfl⟩)
            (?_ : fr (v + e.2 * U h (some pl) n e.1) = fr (v + trm (U h (some pl) n) e))) (gb_thn rfl (gb_fin rfl (by walk_at "WK"))) sc_law_planned.nd
          unfold trm
          rw [if_neg h0]
      · refine gb_ret (ve_eq (ve_var 5 rfl) ?_)
        rw [foldl_sum, Rat.zero_add, u_plan, ← lyr_step hh hs g4]
theorem df_law_best (T : Tx K mg) : ∀ N : Nat, DF P w K mg base "_law_best" (11 + N) (rLBest N) := by
  intro N
  induction N with
  | zero =>
    obtain ⟨f, fd, hm, F⟩ := T.g_law_best
    refine df_mk hm F sc_law_best (bind3 F) (fun ds d h => by obtain ⟨h, s, n, rfl, _⟩ := h; rfl) fun cdv A outer s H E os ds d hr h => ?_
    obtain ⟨h, st, n, rfl, hh, hs, hn, hn10, hb, rfl⟩ := h
    have e : n = 0 := by omega
    subst e
    refine gb_if (vt_eq (k' := true) (vt_eqI (ve_var 2 rfl) ve_int) rfl) (fun _ => ?_) fun z => nomatch z
    exact gb_ret (ve_tup (va_cons ve_int (va_cons ve_int va_nil)))
  | succ N ih =>
    obtain ⟨f, fd, hm, F⟩ := T.g_law_best
    refine df_mk hm F sc_law_best (bind3 F) (fun ds d h => by obtain ⟨h, s, n, rfl, _⟩ := h; rfl) fun cdv A outer s H E os ds d hr h => ?_
    obtain ⟨h, st, n, rfl, hh, hs, hn, hn10, hb, rfl⟩ := h
    have hr : Room (11 + N) _ := hr
    cases n with
    | zero =>
      refine gb_if (vt_eq (k' := true) (vt_eqI (ve_var 2 rfl) ve_int) rfl) (fun _ => ?_) fun z => nomatch z
      exact gb_ret (ve_tup (va_cons ve_int (va_cons ve_int va_nil)))
    | succ n =>
      refine gb_ifNo (vt_eq (vt_eqI (ve_var 2 rfl) ve_int) (by simp; omega)) ?_
      refine gb_set 3 (d := fr 0) (ve_tup (va_cons ve_int (va_cons ve_int va_nil))) ?_ sc_law_best.nd
      obtain ⟨ub, ht, _⟩ := u_best hh n st
      have L := lyr_ok hh hs ht
      have TT := trm_ok L (k := 4 * n) (f := U h none n) fun e he h0 => u_pr hh (o := none) trivial n (L.ok e he h0).1
      refine gb_fold (.three 4 5 6) (lyr h st (Ar h none n st)) enc3 (fun v e => v + trm (U h none n) e) 0 (fun _ => []) (fun v => [.dat (encH h), .dat (stD st), .dat (.int ((n + 1 : Nat) : Int)), .dat (fr v), .any, .any, .any])
        (ve_call ((df_law_year T).up (by omega : 4 ≤ 11 + N)) hr (va_cons (ve_var 0 rfl) (va_cons (ve_ixK0 (ve_var 1 rfl)) (va_cons (ve_ixK1 (ve_var 1 rfl)) (va_cons (ve_call ((df_best_treaty T).up (by omega : 10 ≤ 11 + N)) hr (va_cons (ve_var 0 rfl) (va_cons (ve_var 1 rfl) (va_cons (ve_var 2 rfl) va_nil))) ⟨h, st, n, rfl, hh, hs, by omega, hn10, rfl⟩) va_nil)))) ⟨h, st, Ar h none n st, rfl, hh, hs, ht, rfl⟩)
        (tg_three rfl sc_law_best.nd) ⟨rfl, by walk_at "WK"⟩ (fun Hb hb j e hj => ⟨_, rfl, ?_⟩) ?_ rfl
      · have he := take_mem hj
        have p1 := loop_pr (Pr.zero (k := 4 * n + 4)) TT.1 TT.2 j
        generalize ((lyr h st (Ar h none n st)).take j).foldl (fun v e => v + trm (U h none n) e) 0 = v at p1
        have pe := L.pr e he
        by_cases h0 : e.1.1 < 0
        · refine gb_if (vt_eq (vt_lt (ve_var 4 rfl) ve_int) (decide_eq_true h0)) (fun _ => ?_) fun z => nomatch z
          refine gb_set 3 (ve_eq (ve_call ((df_law_plus T).up (by omega : 2 ≤ 11 + N)) hr (va_cons (ve_var 3 rfl) (va_cons (ve_var 6 rfl) va_nil)) ⟨v, e.2, rfl, p1.sm (by omega), pe.1.sm (by decide), rfl⟩) (?_ : fr (v + e.2) = fr (v + trm (U h none n) e))) (gb_thn rfl (gb_fin rfl (by walk_at "WK"))) sc_law_best.nd
          unfold trm
          rw [if_pos h0, Rat.mul_one]
        · refine gb_if (vt_eq (vt_lt (ve_var 4 rfl) ve_int) (decide_eq_false h0)) (fun z => nomatch z) fun _ => ?_
          have so := L.ok e he h0
          have pu := u_pr hh (o := none) trivial n so.1
          have pm := pe.1.mul pu
          refine gb_set 3 (ve_eq (ve_call ((df_law_plus T).up (by omega : 2 ≤ 11 + N)) hr (va_cons (ve_var 3 rfl) (va_cons (ve_call ((df_law_times T).up (by omega : 2 ≤ 11 + N)) hr (va_cons (ve_var 6 rfl) (va_cons (ve_call ih hr (va_cons (ve_var 0 rfl) (va_cons (ve_tupK (i := e.1.1) (j := e.1.2) (va_cons (ve_var 4 rfl) (va_cons (ve_var 5 rfl) va_nil))) (va_cons (ve_eq (ve_sub (ve_var 2 rfl) ve_int) (d := .int (n : Int)) (by congr 1; omega)) va_nil))) ⟨h, e.1, n, rfl, hh, so.1, by omega, by omega, by have := so.2; omega, rfl⟩) va_nil)) ⟨e.2, _, rfl, pe.1.sm (by decide), pu.sm (by omega), rfl⟩) va_nil)) ⟨v, _, rfl, p1.sm (by omega), pm.sm (by omega), rfl⟩)
            (?_ : fr (v + e.2 * U h none n e.1) = fr (v + trm (U h none n) e))) (gb_thn rfl (gb_fin rfl (by walk_at "WK"))) sc_law_best.nd
          unfold trm
          rw [if_neg h0]
      · refine gb_ret (ve_eq (ve_var 3 rfl) ?_)
        rw [foldl_sum, Rat.zero_add, ub, ← lyr_step hh hs ht]
theorem df_law_way (T : Tx K mg) : ∀ N : Nat, DF P w K mg base "_law_way" (5 + N) (rWay N) := by
  intro N
  induction N with
  | zero =>
    obtain ⟨f, fd, hm, F⟩ := T.g_law_way
    refine df_mk hm F sc_law_way (bind5 F) (fun ds d h => by obtain ⟨h, s, n, dr, p, rfl, _⟩ := h; rfl) fun cdv A outer s H E os ds d hr h => ?_
    obtain ⟨h, st, n, dr, past, rfl, hh, hs, hn, hn10, hb, hdr, hp0, hp1, rfl⟩ := h
    have e : n = 0 := by omega
    subst e
    refine gb_if (vt_eq (k' := true) (vt_eqI (ve_var 2 rfl) ve_int) rfl) (fun _ => ?_) fun z => nomatch z
    exact gb_ret (ve_tup (va_cons ve_int (va_cons ve_int va_nil)))
  | succ N ih =>
    obtain ⟨f, fd, hm, F⟩ := T.g_law_way
    refine df_mk hm F sc_law_way (bind5 F) (fun ds d h => by obtain ⟨h, s, n, dr, p, rfl, _⟩ := h; rfl) fun cdv A outer s H E os ds d hr h => ?_
    obtain ⟨h, st, n, dr, past, rfl, hh, hs, hn, hn10, hb, hdr, hp0, hp1, rfl⟩ := h
    have hr : Room (5 + N) _ := hr
    cases n with
    | zero =>
      refine gb_if (vt_eq (k' := true) (vt_eqI (ve_var 2 rfl) ve_int) rfl) (fun _ => ?_) fun z => nomatch z
      exact gb_ret (ve_tup (va_cons ve_int (va_cons ve_int va_nil)))
    | succ n =>
      refine gb_ifNo (vt_eq (vt_eqI (ve_var 2 rfl) ve_int) (by simp; omega)) ?_
      have e1 := hs.r
      have e2 := hs.w0
      have e3 := hs.w1
      have e4 := hh.w1
      have e5 := hh.t0
      have hp2 : (past * 3 + 109 + 55) * 3 ^ n ≤ 1000000 := by
        have h1 : (past * 3 + 109 + 55) * 3 ^ n ≤ ((past + 55) * 3) * 3 ^ n := Int.mul_le_mul_of_nonneg_right (by omega) (Int.pow_nonneg (by decide))
        have h2 : (past + 55) * 3 * 3 ^ n = (past + 55) * 3 ^ (n + 1) := by rw [Int.pow_succ, Int.mul_assoc, Int.mul_comm 3]
        omega
      have hp3 : past ≤ 1000000 := by
        have h1 : (1 : Int) ≤ 3 ^ (n + 1) := by
          have h9 : (0 : Int) < 3 ^ (n + 1) := Int.pow_pos (by decide)
          omega
        have h2 : (past + 55) * 1 ≤ (past + 55) * 3 ^ (n + 1) := Int.mul_le_mul_of_nonneg_left h1 (by omega)
        omega
      refine gb_set 5 (ve_add (ve_add (ve_add (ve_mul (ve_ixK0 (ve_var 1 rfl)) ve_int (cmw (by omega) (by decide))) (ve_mul (ve_ixK1 (ve_var 1 rfl)) ve_int (cmw (by omega) (by decide)))) (ve_mul (ve_var 2 rfl) ve_int (cmw (by omega) (by decide)))) (ve_var 4 rfl)) ?_ sc_law_way.nd
      have hdl : (0 : Int) < (dr.length : Int) := by omega
      have hm0 : 0 ≤ (st.1 * 5 + st.2 * 7 + ((n + 1 : Nat) : Int) * 11 + past) % (dr.length : Int) := Int.emod_nonneg _ (by omega)
      have hm1 : (st.1 * 5 + st.2 * 7 + ((n + 1 : Nat) : Int) * 11 + past) % (dr.length : Int) < (dr.length : Int) := Int.emod_lt_of_pos _ hdl
      have htw := wtr_lt hh dr n st past
      refine gb_set 6 (ve_eq (ve_mod (ve_ixL (d := .int (dr.getD ((st.1 * 5 + st.2 * 7 + ((n + 1 : Nat) : Int) * 11 + past) % (dr.length : Int)).toNat 0 : Nat)) (ve_var 3 rfl) (ve_mod (ve_var 5 rfl) (ve_eq (ve_len T.b_len (ve_var 3 rfl)) (d := .int (dr.length : Int)) (by rw [List.length_map])) hdl) ?_) (ve_eq (ve_len T.b_len (ve_ixT (ve_var 0 rfl) ve_int (d := .list (h.ts.map encT)) rfl)) (d := .int (h.ts.length : Int)) (by rw [List.length_map])) (by omega)) (d := .int (wtr h dr n st past : Nat)) rfl) ?_ sc_law_way.nd
      · have hlt : ((st.1 * 5 + st.2 * 7 + ((n + 1 : Nat) : Int) * 11 + past) % (dr.length : Int)).toNat < dr.length := by omega
        have hc : (st.1 * 5 + st.2 * 7 + ((n + 1 : Nat) : Int) * 11 + past) % (dr.length : Int) = (((st.1 * 5 + st.2 * 7 + ((n + 1 : Nat) : Int) * 11 + past) % (dr.length : Int)).toNat : Int) := by omega
        generalize ((st.1 * 5 + st.2 * 7 + ((n + 1 : Nat) : Int) * 11 + past) % (dr.length : Int)).toNat = i0 at hlt hc
        rw [hc]
        exact atI_nat (by rw [List.getElem?_map, List.getD_eq_getElem?_getD, List.getElem?_eq_getElem hlt]; rfl)
      refine gb_set 7 (d := fr 0) (ve_tup (va_cons ve_int (va_cons ve_int va_nil))) ?_ sc_law_way.nd
      have L := lyr_ok hh hs htw
      have W := (wy_ok hh dr n past hs).2.2
      have Ll := L.len
      refine gb_set 8 (ve_call ((df_law_year T).up (by omega : 4 ≤ 5 + N)) hr (va_cons (ve_var 0 rfl) (va_cons (ve_ixK0 (ve_var 1 rfl)) (va_cons (ve_ixK1 (ve_var 1 rfl)) (va_cons (ve_var 6 rfl) va_nil)))) ⟨h, st, _, rfl, hh, hs, htw, rfl⟩) ?_ sc_law_way.nd
      refine gb_foldR (lyr h st (wtr h dr n st past)).length 9 (fun (v : Rat) (k : Nat) => v + trm (fun z => Wy h dr n z (past * 3 + (k : Int) + 1)) ((lyr h st (wtr h dr n st past)).getD k ((0, 0), 0))) 0 (fun _ => []) (fun v => [.dat (encH h), .dat (stD st), .dat (.int ((n + 1 : Nat) : Int)), .dat (encN dr), .dat (.int past), .any, .any, .dat (fr v), .dat (.list ((lyr h st (wtr h dr n st past)).map enc3)), .any, .any, .any, .any, .any]) T.b_range (by omega) (ve_eq (ve_len T.b_len (ve_var 8 rfl)) (by rw [List.length_map])) (tg_nm sc_law_way.nd) ⟨rfl, by walk_at "WK"⟩ (fun k hk => ?_) ?_ rfl
      · have p1 : Pr (4 * n + 4) ((List.range k).foldl (fun (v : Rat) (k : Nat) => v + trm (fun z => Wy h dr n z (past * 3 + (k : Int) + 1)) ((lyr h st (wtr h dr n st past)).getD k ((0, 0), 0))) 0) := by
          have h1 := loop_pr (Pr.zero (k := 4 * n + 4)) W.term W.one k
          rw [List.take_range, Nat.min_eq_left (by omega)] at h1
          exact h1
        generalize (List.range k).foldl (fun (v : Rat) (k : Nat) => v + trm (fun z => Wy h dr n z (past * 3 + (k : Int) + 1)) ((lyr h st (wtr h dr n st past)).getD k ((0, 0), 0))) 0 = v at p1
        obtain ⟨e, g1, g2, he⟩ := getD_at hk
        have pe := L.pr e he
        rw [g2]
        refine gb_unpack (.three 10 11 12) (tg_three rfl sc_law_way.nd) (ve_ixL (ve_var 8 rfl) (ve_var 9 rfl) (d := enc3 e) (atI_nat (by rw [List.getElem?_map, g1]; rfl))) rfl ?_
        by_cases h0 : e.1.1 < 0
        · refine gb_if (vt_eq (vt_lt (ve_var 10 rfl) ve_int) (decide_eq_true h0)) (fun _ => ?_) fun z => nomatch z
          refine gb_set 7 (ve_eq (ve_call ((df_law_plus T).up (by omega : 2 ≤ 5 + N)) hr (va_cons (ve_var 7 rfl) (va_cons (ve_var 12 rfl) va_nil)) ⟨v, e.2, rfl, p1.sm (by omega), pe.1.sm (by decide), rfl⟩) (?_ : fr (v + e.2) = fr (v + trm (fun z => Wy h dr n z (past * 3 + (k : Int) + 1)) e))) (gb_thn rfl (gb_fin rfl (by walk_at "WK"))) sc_law_way.nd
          unfold trm
          rw [if_pos h0, Rat.mul_one]
        · refine gb_if (vt_eq (vt_lt (ve_var 10 rfl) ve_int) (decide_eq_false h0)) (fun z => nomatch z) fun _ => ?_
          have so := L.ok e he h0
          have pu := (wy_ok hh dr n (past * 3 + (k : Int) + 1) so.1).1
          have pm := pe.1.mul pu
          refine gb_set 13 (ve_call ih hr (va_cons (ve_var 0 rfl) (va_cons (ve_tupK (i := e.1.1) (j := e.1.2) (va_cons (ve_var 10 rfl) (va_cons (ve_var 11 rfl) va_nil))) (va_cons (ve_eq (ve_sub (ve_var 2 rfl) ve_int) (d := .int (n : Int)) (by congr 1; omega)) (va_cons (ve_var 3 rfl) (va_cons (ve_add (ve_add (ve_mul (ve_var 4 rfl) ve_int (cmw (by omega) (by decide))) (ve_var 9 rfl)) ve_int) va_nil))))) ⟨h, e.1, n, dr, past * 3 + (k : Int) + 1, rfl, hh, so.1, by omega, by omega, by have := so.2; omega, hdr, by omega, ?_, rfl⟩) ?_ sc_law_way.nd
          · refine Int.le_trans (Int.mul_le_mul_of_nonneg_right ?_ (Int.pow_nonneg (by decide))) hp2
            omega
          refine gb_set 7 (ve_eq (ve_call ((df_law_plus T).up (by omega : 2 ≤ 5 + N)) hr (va_cons (ve_var 7 rfl) (va_cons (ve_call ((df_law_times T).up (by omega : 2 ≤ 5 + N)) hr (va_cons (ve_var 12 rfl) (va_cons (ve_var 13 rfl) va_nil)) ⟨e.2, _, rfl, pe.1.sm (by decide), pu.sm (by omega), rfl⟩) va_nil)) ⟨v, _, rfl, p1.sm (by omega), pm.sm (by omega), rfl⟩)
            (?_ : fr (v + e.2 * Wy h dr n e.1 (past * 3 + (k : Int) + 1)) = fr (v + trm (fun z => Wy h dr n z (past * 3 + (k : Int) + 1)) e))) (gb_thn rfl (gb_fin rfl (by walk_at "WK"))) sc_law_way.nd
          unfold trm
          rw [if_neg h0]
      · refine gb_ret (ve_eq (ve_var 7 rfl) ?_)
        rw [foldl_sum, Rat.zero_add]
        rfl
end
end LC

namespace LC
open PySem PySem.Spec PyProof.Rows L2 DL
local macro_rules | `(tactic| walk_at "WK") => `(tactic| repeat (first | exact Weak.nil | refine Weak.same ?_ | refine Weak.drop ?_))

/-! ### the law's layers -/
def lyK (ks : List Stt) (e : Ev) : List Stt := if 0 ≤ e.1.1 then addK ks e.1 else ks
theorem adds_ly : Adds lyK 1 fun e k => 0 ≤ e.1.1 ∧ k = e.1 := by
  refine ⟨fun ks e nd => ?_, fun ks e k => ?_, fun ks e => ?_⟩
  · unfold lyK
    split
    · exact adds_one.nd ks _ nd
    · exact nd
  · unfold lyK
    split
    · rename_i h0
      rw [adds_one.mem]
      simp [h0]
    · rename_i h0
      simp [h0]
  · unfold lyK
    split
    · exact adds_one.len ks _
    · omega
def rl (h : Hse) (z : Stt) (n : Nat) : List Ev := (List.range n).flatMap (lyr h z)
theorem rl_len {h : Hse} (hh : HseOk h) {z : Stt} (hz : StOk h z) : ∀ n : Nat, n ≤ h.ts.length → (rl h z n).length ≤ n * 108
  | 0, _ => by simp [rl]
  | n + 1, hn => by
    have h1 := rl_len hh hz n (by omega)
    have h2 := (lyr_ok hh hz (t := n) (by omega)).len
    unfold rl at h1 ⊢
    rw [List.range_succ, List.flatMap_append, List.length_append, List.flatMap_cons, List.flatMap_nil, List.append_nil]
    omega
def nxL (h : Hse) (l : List Stt) : List Stt := l.foldl (fun ks z => (rl h z h.ts.length).foldl lyK ks) []
theorem nxL_pre {h : Hse} (hh : HseOk h) : ∀ (l ks : List Stt), (∀ z ∈ l, StOk h z) → (ks.Nodup → (l.foldl (fun ks z => (rl h z h.ts.length).foldl lyK ks) ks).Nodup) ∧ (∀ k, k ∈ l.foldl (fun ks z => (rl h z h.ts.length).foldl lyK ks) ks ↔ k ∈ ks ∨ ∃ z ∈ l, ∃ e ∈ rl h z h.ts.length, 0 ≤ e.1.1 ∧ k = e.1) ∧ (l.foldl (fun ks z => (rl h z h.ts.length).foldl lyK ks) ks).length ≤ ks.length + l.length * 432
  | [], ks, _ => ⟨fun h => h, fun k => by simp, by simp⟩
  | z :: l, ks, hz => by
    have A := adds_ly.run (rl h z h.ts.length) ks
    obtain ⟨h1, h2, h3⟩ := nxL_pre hh l ((rl h z h.ts.length).foldl lyK ks) fun u hu => hz u (List.mem_cons_of_mem _ hu)
    refine ⟨fun nd => h1 (A.1 nd), fun k => ?_, ?_⟩
    · rw [List.foldl_cons, h2, A.2.1]
      constructor
      · rintro ((h | ⟨x, hx, h⟩) | ⟨u, hu, h⟩)
        · exact .inl h
        · exact .inr ⟨z, List.mem_cons_self, x, hx, h⟩
        · exact .inr ⟨u, List.mem_cons_of_mem _ hu, h⟩
      · rintro (h | ⟨u, hu, h⟩)
        · exact .inl (.inl h)
        · rcases List.mem_cons.mp hu with rfl | hu
          · exact .inl (.inr h)
          · exact .inr ⟨u, hu, h⟩
    · have h4 := rl_len hh (hz z List.mem_cons_self) h.ts.length (Nat.le_refl _)
      have h5 := hh.t1
      have h6 := A.2.2
      rw [List.foldl_cons, List.length_cons, Nat.add_mul]
      omega
/-- a layer: its states are there, each once -/
structure LL (h : Hse) (B : Int) (l : List Stt) : Prop where
  nd : l.Nodup
  ok : ∀ k ∈ l, StOk h k ∧ k.1 ≤ B
theorem nxL_ok {h : Hse} (hh : HseOk h) {B : Int} {l : List Stt} (L : LL h B l) : LL h (B + 30) (srt (nxL h l)) ∧ (∀ z ∈ l, ∀ t, t < h.ts.length → ∀ e ∈ lyr h z t, ¬ e.1.1 < 0 → e.1 ∈ srt (nxL h l)) := by
  obtain ⟨h1, h2, _⟩ := nxL_pre hh l [] fun z hz => (L.ok z hz).1
  have hm : ∀ k, k ∈ srt (nxL h l) ↔ ∃ z ∈ l, ∃ e ∈ rl h z h.ts.length, 0 ≤ e.1.1 ∧ k = e.1 := fun k => by
    rw [(srt_perm _).mem_iff]
    have := h2 k
    simp only [List.not_mem_nil, false_or] at this
    exact this
  refine ⟨⟨(srt_perm _).nodup_iff.mpr (h1 List.nodup_nil), fun k hk => ?_⟩, fun z hz t ht e he h0 => ?_⟩
  · obtain ⟨z, hz, e, he, h0, rfl⟩ := (hm k).mp hk
    obtain ⟨t, ht, he⟩ := List.mem_flatMap.mp he
    have zo := L.ok z hz
    have := (lyr_ok hh zo.1 (List.mem_range.mp ht)).ok e he (by omega)
    exact ⟨this.1, by have := this.2; have := zo.2; omega⟩
  · exact (hm _).mpr ⟨z, hz, e, List.mem_flatMap.mpr ⟨t, List.mem_range.mpr ht, he⟩, by omega, rfl⟩
structure LReach (h : Hse) (s : Stt) (ls : List (List Stt)) : Prop where
  at0 : ls[0]? = some [s]
  lay : ∀ (i : Nat) (l : List Stt), ls[i]? = some l → LL h (s.1 + 30 * (i : Int)) l
  nxt : ∀ (i : Nat) (l l' : List Stt), ls[i]? = some l → ls[i + 1]? = some l' → ∀ z ∈ l, ∀ t, t < h.ts.length → ∀ e ∈ lyr h z t, ¬ e.1.1 < 0 → e.1 ∈ l'
theorem reach0 {h : Hse} {s : Stt} (hs : StOk h s) : LReach h s [[s]] := by
  refine ⟨rfl, fun i l hl => ?_, fun i l l' hl hl' => ?_⟩
  · cases i with
    | zero =>
      cases hl
      exact ⟨by simp, fun k hk => by rw [List.mem_singleton.mp hk]; exact ⟨hs, by simp⟩⟩
    | succ i => simp at hl
  · simp at hl'
theorem reach_more {h : Hse} (hh : HseOk h) {s : Stt} {ls : List (List Stt)} {l : List Stt} (R : LReach h s (ls ++ [l])) : LReach h s (ls ++ [l] ++ [srt (nxL h l)]) := by
  have hl : (ls ++ [l])[ls.length]? = some l := by simp
  have L := R.lay _ _ hl
  obtain ⟨n1, n2⟩ := nxL_ok hh L
  refine ⟨?_, fun i x hx => ?_, fun i x x' hx hx' => ?_⟩
  · rw [List.getElem?_append_left (by simp)]
    exact R.at0
  · by_cases hi : i < (ls ++ [l]).length
    · rw [List.getElem?_append_left hi] at hx
      exact R.lay i x hx
    · have hlt := (List.getElem?_eq_some_iff.mp hx).1
      simp only [List.length_append, List.length_singleton] at hi hlt
      have e : i = ls.length + 1 := by omega
      subst e
      rw [List.getElem?_append_right (by simp)] at hx
      simp at hx
      subst hx
      rw [show s.1 + 30 * ((ls.length + 1 : Nat) : Int) = s.1 + 30 * (ls.length : Int) + 30 by omega]
      exact n1
  · by_cases hi : i + 1 < (ls ++ [l]).length
    · rw [List.getElem?_append_left hi] at hx'
      rw [List.getElem?_append_left (by omega)] at hx
      exact R.nxt i x x' hx hx'
    · have hlt := (List.getElem?_eq_some_iff.mp hx').1
      simp only [List.length_append, List.length_singleton] at hi hlt
      have e : i = ls.length := by omega
      subst e
      rw [List.getElem?_append_left (by simp), hl] at hx
      cases hx
      rw [List.getElem?_append_right (by simp)] at hx'
      simp at hx'
      subst hx'
      exact n2
abbrev encRe (ls : List (List Stt)) : PyData := .list (ls.map fun l => .list (l.map stD))
def pReach (h : Hse) (s : Stt) (ds : List PyData) : Prop := ∃ (y m : Nat), ds = [encH h, stD s, .int (y : Int), .int (m : Int)] ∧ HseOk h ∧ StOk h s ∧ s.1 ≤ 100 ∧ 1 ≤ y ∧ y ≤ 10
def qReach (h : Hse) (s : Stt) (_ : List PyData) (d : PyData) : Prop := ∃ ls : List (List Stt), LReach h s ls ∧ 1 ≤ ls.length ∧ ls.length ≤ 10 ∧ d = encRe ls
section
variable {P : Program} {w : World} {K : PySem.W.Frag} {mg : Str → Option Value} {base : Heap}
theorem dg_law_reached (T : Tx K mg) (h : Hse) (st : Stt) : DG P w K mg base "_law_reached" 5 (pReach h st) (qReach h st) := by
  obtain ⟨f, fd, hm, F⟩ := T.g_law_reached
  refine dg_mk hm F sc_law_reached (bind4 F) (fun ds h => by obtain ⟨y, m, rfl, _⟩ := h; rfl) fun cdv A outer s H E os ds hr h0 => ?_
  obtain ⟨y, m, rfl, hh, hs, hr100, hy1, hy10⟩ := h0
  refine gb_newLs 4 (va_cons (ve_lst (va_cons (ve_var 1 rfl) va_nil)) va_nil) (fun q => ?_) sc_law_reached.nd
  refine gb_set 5 ve_int ?_ sc_law_reached.nd
  have fin : ∀ (ls : List (List Stt)), LReach h st ls → 1 ≤ ls.length → ls.length ≤ y → qReach h st [encH h, stD st, .int (y : Int), .int (m : Int)] (encRe ls) := fun ls R h1 h2 => ⟨ls, R, h1, by omega, rfl⟩
  refine gb_range ((y : Int) - 1) 6 (fun k (g : List (List Stt) × List Stt × Int) => g.1.length = k ∧ LReach h st (g.1 ++ [g.2.1])) (fun g => [(q, .ml ((g.1 ++ [g.2.1]).map fun l => .list (l.map stD)))]) (fun g => [.dat (encH h), .dat (stD st), .dat (.int y), .dat (.int m), .val (.ref q), .dat (.int g.2.2), .any, .any, .any, .any, .any, .any, .any]) T.b_range (by omega) (ve_sub (ve_var 2 rfl) ve_int) (tg_nm sc_law_reached.nd) ⟨([], [st], 1), ⟨rfl, reach0 hs⟩, rfl, by walk_at "WK"⟩ (fun k g hk hg => ?_) (fun g hg => ?_) rfl
  · obtain ⟨ls, l, tot⟩ := g
    obtain ⟨hl, R⟩ := hg
    have hl : ls.length = k := hl
    have R : LReach h st (ls ++ [l]) := R
    have L := R.lay ls.length l (by simp)
    have hll : l.length ≤ 2000 := by
      have := box_len hh (B := 400) L.nd fun k hk => by have := L.ok k hk; exact ⟨this.1, by have := this.2; omega⟩
      omega
    refine gb_newT 7 (fun a => ?_) sc_law_reached.nd
    refine gb_fold (.nm 8) l stD (fun ks z => (rl h z h.ts.length).foldl lyK ks) [] (fun ks => [(a, .mT (ks.map tr1)), (q, .ml ((ls ++ [l]).map fun l => .list (l.map stD)))]) (fun _ => [.dat (encH h), .dat (stD st), .dat (.int y), .dat (.int m), .val (.ref q), .dat (.int tot), .any, .val (.ref a), .any, .any, .any, .any, .any])
      (ve_ixM 4 1 rfl rfl (ve_neg ve_int) ?_) (tg_nm sc_law_reached.nd) ⟨rfl, by walk_at "WK"⟩ (fun Hb hb j z hz => ⟨_, rfl, ?_⟩) ?_ rfl
    · show atI ((ls ++ [l]).map fun l => PyData.list (l.map stD)) (-1) = _
      rw [List.map_append]
      exact atI_last _ _
    · have hzo := (L.ok z (take_mem hz)).1
      have hjl := (List.getElem?_eq_some_iff.mp hz).1
      have b1 := (nxL_pre hh (l.take j) [] fun u hu => (L.ok u ((List.take_sublist j _).subset hu)).1).2.2
      rw [List.length_take] at b1
      generalize (l.take j).foldl (fun ks z => (rl h z h.ts.length).foldl lyK ks) [] = ks0 at b1
      have b2 : ks0.length ≤ 900000 := by simp at b1; omega
      have e1 : (rl h z h.ts.length).foldl lyK ks0 = (List.range h.ts.length).foldl (fun ks t => (lyr h z t).foldl lyK ks) ks0 := by
        unfold rl
        rw [List.foldl_flatMap]
      rw [e1]
      refine gb_foldR h.ts.length 9 (fun ks t => (lyr h z t).foldl lyK ks) ks0 (fun ks => [(a, .mT (ks.map tr1)), (q, .ml ((ls ++ [l]).map fun l => .list (l.map stD)))]) (fun _ => [.dat (encH h), .dat (stD st), .dat (.int y), .dat (.int m), .val (.ref q), .dat (.int tot), .any, .val (.ref a), .dat (stD z), .any, .any, .any, .any])
        T.b_range (by have := hh.t1; omega) (ve_eq (ve_len T.b_len (ve_ixT (ve_var 0 rfl) ve_int (d := .list (h.ts.map encT)) rfl)) (by rw [List.length_map])) (tg_nm sc_law_reached.nd) ⟨rfl, by walk_at "WK"⟩ (fun t ht => ?_) ?_ rfl
      · have b3 := (adds_ly.run (rl h z t) ks0).2.2
        have b4 := rl_len hh hzo t (by omega)
        have e2 : (List.range t).foldl (fun ks t => (lyr h z t).foldl lyK ks) ks0 = (rl h z t).foldl lyK ks0 := by
          unfold rl
          rw [List.foldl_flatMap]
        rw [e2]
        have ht1 := hh.t1
        generalize (rl h z t).foldl lyK ks0 = ks1 at b3
        have lo := lyr_ok hh hzo ht
        have lol := lo.len
        refine gb_fold (.three 10 11 12) (lyr h z t) enc3 lyK ks1 (fun ks => [(a, .mT (ks.map tr1)), (q, .ml ((ls ++ [l]).map fun l => .list (l.map stD)))]) (fun _ => [.dat (encH h), .dat (stD st), .dat (.int y), .dat (.int m), .val (.ref q), .dat (.int tot), .any, .val (.ref a), .dat (stD z), .dat (.int (t : Int)), .any, .any, .any])
          (ve_call (df_law_year T) hr (va_cons (ve_var 0 rfl) (va_cons (ve_ixK0 (ve_var 8 rfl)) (va_cons (ve_ixK1 (ve_var 8 rfl)) (va_cons (ve_var 9 rfl) va_nil)))) ⟨h, z, t, rfl, hh, hzo, ht, rfl⟩) (tg_three rfl sc_law_reached.nd) ⟨rfl, by walk_at "WK"⟩ (fun Hb2 hb2 i e hi => ⟨_, rfl, ?_⟩) ?_ rfl
        · have b5 := (adds_ly.run ((lyr h z t).take i) ks1).2.2
          rw [List.length_take] at b5
          generalize ((lyr h z t).take i).foldl lyK ks1 = ks2 at b5
          by_cases h0 : 0 ≤ e.1.1
          · have e3 : lyK ks2 e = addK ks2 e.1 := if_pos h0
            rw [e3]
            refine gb_if (vt_eq (vt_ge (ve_var 10 rfl) ve_int) (decide_eq_true h0)) (fun _ => ?_) fun z => nomatch z
            refine gb_dputT 7 0 (hu_of hr) rfl rfl (ve_tupK (i := e.1.1) (j := e.1.2) (va_cons (ve_var 10 rfl) (va_cons (ve_var 11 rfl) va_nil))) ve_bl (by rw [List.length_map]; omega) ?_
            refine gb_thn rfl (gb_finM rfl ?_ (by walk_at "WK"))
            show [(a, MO.mT (put _ _ _)), _] = [(a, MO.mT _), _]
            rw [put_tr]
          · have e3 : lyK ks2 e = ks2 := if_neg h0
            rw [e3]
            exact gb_ifNo (vt_eq (vt_ge (ve_var 10 rfl) ve_int) (decide_eq_false h0)) (gb_finM rfl rfl (by walk_at "WK"))
        · exact gb_finM rfl rfl (by walk_at "WK")
      · exact gb_finM rfl rfl (by walk_at "WK")
    · refine gb_set 5 (ve_add (ve_var 5 rfl) (ve_lenM 7 0 T.b_len rfl rfl)) ?_ sc_law_reached.nd
      refine gb_if (vt_gt (ve_var 5 rfl) (ve_var 3 rfl)) (fun _ => ?_) fun _ => ?_
      · refine gb_brkTo rfl ?_
        exact gb_frz 4 1 rfl rfl rfl (gb_retG (Po := qReach h st _) (ve_var 4 rfl) (fin (ls ++ [l]) R (by simp) (by simp; omega)))
      · refine gb_thn rfl ?_
        refine gb_frz 7 0 rfl rfl rfl ?_
        refine gb_app 4 0 rfl rfl (ve_sortedT rfl T.b_sorted (ve_var 7 rfl)) (by simp; omega) ?_
        have ek : ((l.foldl (fun ks z => (rl h z h.ts.length).foldl lyK ks) []).map tr1).map (·.1) = nxL h l := by rw [List.map_map]; exact List.map_id _
        rw [ek]
        refine gb_nil fun σ H' s' => ⟨(ls ++ [l], srt (nxL h l), tot + ((((l.foldl (fun ks z => (rl h z h.ts.length).foldl lyK ks) []).map tr1).length : Nat) : Int)), ⟨by show (ls ++ [l]).length = k + 1; simp [hl], reach_more hh R⟩, ?_⟩
        refine sa_eq s' ?_ (by walk_at "WK")
        show [(q, MO.ml _)] = [(q, MO.ml _)]
        rw [List.map_append (l₂ := [srt (nxL h l)])]
        rfl
  · obtain ⟨ls, l, tot⟩ := g
    obtain ⟨hl, R⟩ := hg
    have hl : ls.length = ((y : Int) - 1).toNat := hl
    exact gb_frz 4 0 rfl rfl rfl (gb_retG (Po := qReach h st _) (ve_var 4 rfl) (fin (ls ++ [l]) R (by simp) (by simp; omega)))
end
end LC

namespace LC
open PySem PySem.Spec PyProof.Rows L2 DL
local macro_rules | `(tactic| walk_at "WK") => `(tactic| repeat (first | exact Weak.nil | refine Weak.same ?_ | refine Weak.drop ?_))

/-! ### going backwards -/
def sT : Option (Rat × Nat) → SD
  | none => .any
  | some (_, t) => .dat (.int (t : Int))
def ltL (h : Hse) (ls : List (List Stt)) (k : Nat) : List (Stt × Rat) := if k = 0 then [] else (ls.getD (ls.length - k) []).map fun z => (z, U h none k z)
def rLL (ds : List PyData) (d : PyData) : Prop := ∃ (h : Hse) (s : Stt) (ls : List (List Stt)) (m : Nat), ds = [encH h, encRe ls] ∧ HseOk h ∧ StOk h s ∧ s.1 ≤ 100 ∧ LReach h s ls ∧ ls.length = m + 1 ∧ m + 1 ≤ 10 ∧ d = .tuple [fr (U h none (m + 1) s), .int (Ar h none m s : Nat)]
theorem look_tab {l : List Stt} {g : Stt → Rat} (nd : l.Nodup) {z : Stt} (hz : z ∈ l) : look (l.map fun z => (z, g z)) z = some (g z) := by
  refine look_mem ?_ (List.mem_map.mpr ⟨z, hz, rfl⟩)
  rw [List.map_map]
  have e : l.map ((fun x : Stt × Rat => x.1) ∘ fun z => (z, g z)) = l := List.map_id _
  rw [e]
  exact nd
section
variable {P : Program} {w : World} {K : PySem.W.Frag} {mg : Str → Option Value} {base : Heap}
theorem df_law_least (T : Tx K mg) : DF P w K mg base "_law_least" 5 rLL := by
  obtain ⟨f, fd, hm, F⟩ := T.g_law_least
  refine df_mk hm F sc_law_least (bind2 F) (fun ds d h => by obtain ⟨h, s, y, m, rfl, _⟩ := h; rfl) fun cdv A outer s H E os ds d hr h => ?_
  obtain ⟨h, st, ls, m, rfl, hh, hs, hr100, R, hlen, hm10, rfl⟩ := h
  refine gb_newT 2 (fun q0 => ?_) sc_law_least.nd
  refine gb_set 3 ve_non ?_ sc_law_least.nd
  refine gb_frz 2 0 rfl rfl rfl ?_
  let s3 : Nat → SD := fun g => if g = m + 1 then .dat (.int (Ar h none m st : Nat)) else .any
  have s30 : s3 0 = .any := if_neg (by omega)
  have lt0 : ltL h ls 0 = [] := if_pos rfl
  refine gb_range ((m + 1 : Nat) : Int) 4 (fun k (g : Nat) => g = k) (fun _ => []) (fun g => [.dat (encH h), .dat (encRe ls), .dat (encTab (ltL h ls g)), s3 g, .any, .any, .any, .any, .any, .any, .any, .any, .any]) T.b_range (by omega) (ve_eq (ve_len T.b_len (ve_var 1 rfl)) (by rw [List.length_map, hlen])) (tg_nm sc_law_least.nd) ⟨0, rfl, rfl, ?_⟩ (fun k g hk hg => ?_) (fun g hg => ?_) rfl
  · show Weak _ [_, _, .dat (encTab (ltL h ls 0)), s3 0, _, _, _, _, _, _, _, _, _]
    rw [s30, lt0]
    walk_at "WK"
  · subst hg
    have hk : g < m + 1 := by omega
    have hi : ls[m - g]? = some (ls[m - g]'(by omega)) := List.getElem?_eq_getElem (by omega)
    generalize (ls[m - g]'(by omega)) = l at hi
    have L := R.lay _ _ hi
    have hll : l.length ≤ 2000 := by
      have := box_len hh (B := 400) L.nd fun k hk => by have := L.ok k hk; exact ⟨this.1, by have := this.2; omega⟩
      omega
    -- the later chances
    have later : ∀ z ∈ l, ∀ t, t < h.ts.length → ∀ e ∈ lyr h z t, ¬ e.1.1 < 0 → 0 < g → look (ltL h ls g) e.1 = some (U h none g e.1) := fun z hz t ht e he h0 hg => by
      have hi2 : ls[m - g + 1]? = some (ls[m - g + 1]'(by omega)) := List.getElem?_eq_getElem (by omega)
      have h1 := R.nxt _ _ _ hi hi2 z hz t ht e he h0
      generalize (ls[m - g + 1]'(by omega)) = l2 at hi2 h1
      have L2 := R.lay _ _ hi2
      have e1 : ltL h ls g = l2.map fun z => (z, U h none g z) := by
        unfold ltL
        rw [if_neg (by omega), List.getD_eq_getElem?_getD, hlen, show m + 1 - g = m - g + 1 by omega, hi2]
        rfl
      rw [e1]
      exact look_tab L2.nd h1
    let sl : Nat → SD := fun j => if j = 0 then .any else .dat (.int (Ar h none g (l.getD (j - 1) st) : Nat))
    have sl0 : sl 0 = .any := if_pos rfl
    refine gb_newT 5 (fun a => ?_) sc_law_least.nd
    refine gb_forL (.nm 6) (fun j (x : Nat) => x = j) (fun x => [(a, .mT ((l.take x).map fun z => (z, fr (U h none (g + 1) z))))]) (fun x => [.dat (encH h), .dat (encRe ls), .dat (encTab (ltL h ls g)), sl x, .dat (.int (g : Int)), .val (.ref a), .any, .any, .any, .any, .any, .any, .any]) (ds := l.map stD)
      (ve_ixL (ve_var 1 rfl) (ve_eq (ve_sub (ve_sub (ve_len T.b_len (ve_var 1 rfl)) ve_int) (ve_var 4 rfl)) (d := .int ((m - g : Nat) : Int)) ?_) (atI_nat (by rw [List.getElem?_map, hi]; rfl))) (tg_nm sc_law_least.nd) ⟨0, rfl, rfl, ?_⟩ (fun Hb hb j d x hd hx => ?_) (fun x hx => ?_) rfl
    · rw [List.length_map, hlen]
      congr 1
      omega
    · show Weak [_, _, _, s3 g, _, _, _, _, _, _, _, _, _] [_, _, _, sl 0, _, _, _, _, _, _, _, _, _]
      rw [sl0]
      walk_at "WK"
    · subst hx
      have hz2 : ∃ z, l[x]? = some z ∧ d = stD z := by
        rw [List.getElem?_map] at hd
        cases e : l[x]? with
        | none => rw [e] at hd; cases hd
        | some u => rw [e] at hd; cases hd; exact ⟨u, rfl, rfl⟩
      obtain ⟨z, hz, rfl⟩ := hz2
      have hzm := take_mem hz
      have hxl := (List.getElem?_eq_some_iff.mp hz).1
      have zo := L.ok z hzm
      refine ⟨_, rfl, ?_⟩
      refine gb_set 7 ve_non ?_ sc_law_least.nd
      refine gb_foldR h.ts.length 8 (pickS (stepV h (U h none g) z)) none (fun _ => [(a, .mT ((l.take x).map fun z => (z, fr (U h none (g + 1) z))))]) (fun acc => [.dat (encH h), .dat (encRe ls), .dat (encTab (ltL h ls g)), sT acc, .dat (.int (g : Int)), .val (.ref a), .dat (stD z), .dat (oV acc), .any, .any, .any, .any, .any])
        T.b_range (by have := hh.t1; omega) (ve_eq (ve_len T.b_len (ve_ixT (ve_var 0 rfl) ve_int (d := .list (h.ts.map encT)) rfl)) (by rw [List.length_map])) (tg_nm sc_law_least.nd) ⟨rfl, by
          show Weak _ [_, _, _, .any, _, _, _, .dat .none, _, _, _, _, _]
          walk_at "WK"⟩ (fun t ht => ?_) ?_ rfl
      · have so := u_step hh (o := none) trivial g zo.1 ht
        have LO := lyr_ok hh zo.1 ht
        have TT := trm_ok LO (k := 4 * g) (f := U h none g) fun e he h0 => u_pr hh (o := none) trivial g (LO.ok e he h0).1
        have acc_ok : ∀ v u, (List.range t).foldl (pickS (stepV h (U h none g) z)) none = some (v, u) → Pr (4 * g + 4) v := fun v u e => by
          obtain ⟨h1, _, _⟩ := pick_fold (List.range t) none v u e
          rcases h1 with h1 | ⟨h1, h2⟩
          · cases h1
          · rw [h2]
            exact (u_step hh (o := none) trivial g zo.1 (Nat.lt_trans (List.mem_range.mp h1) ht)).pr
        generalize (List.range t).foldl (pickS (stepV h (U h none g) z)) none = acc at acc_ok
        refine gb_set 9 (d := fr 0) (ve_tup (va_cons ve_int (va_cons ve_int va_nil))) ?_ sc_law_least.nd
        refine gb_fold (.three 10 11 12) (lyr h z t) enc3 (fun v e => v + trm (U h none g) e) 0 (fun _ => [(a, .mT ((l.take x).map fun z => (z, fr (U h none (g + 1) z))))]) (fun v => [.dat (encH h), .dat (encRe ls), .dat (encTab (ltL h ls g)), sT acc, .dat (.int (g : Int)), .val (.ref a), .dat (stD z), .dat (oV acc), .dat (.int (t : Int)), .dat (fr v), .any, .any, .any])
          (ve_call (df_law_year T) hr (va_cons (ve_var 0 rfl) (va_cons (ve_ixK0 (ve_var 6 rfl)) (va_cons (ve_ixK1 (ve_var 6 rfl)) (va_cons (ve_var 8 rfl) va_nil)))) ⟨h, z, t, rfl, hh, zo.1, ht, rfl⟩) (tg_three rfl sc_law_least.nd) ⟨rfl, by walk_at "WK"⟩ (fun Hb2 hb2 i e hi2 => ⟨_, rfl, ?_⟩) ?_ rfl
        · have he := take_mem hi2
          have p1 := loop_pr (Pr.zero (k := 4 * g + 4)) TT.1 TT.2 i
          generalize ((lyr h z t).take i).foldl (fun v e => v + trm (U h none g) e) 0 = v at p1
          have pe := LO.pr e he
          by_cases h0 : e.1.1 < 0
          · refine gb_if (vt_eq (vt_lt (ve_var 10 rfl) ve_int) (decide_eq_true h0)) (fun _ => ?_) fun z => nomatch z
            refine gb_set 9 (ve_eq (ve_call ((df_law_plus T).up (by decide : 2 ≤ 4)) hr (va_cons (ve_var 9 rfl) (va_cons (ve_var 12 rfl) va_nil)) ⟨v, e.2, rfl, p1.sm (by omega), pe.1.sm (by decide), rfl⟩) (?_ : fr (v + e.2) = fr (v + trm (U h none g) e))) (gb_thn rfl (gb_fin rfl (by walk_at "WK"))) sc_law_least.nd
            unfold trm
            rw [if_pos h0, Rat.mul_one]
          · refine gb_if (vt_eq (vt_lt (ve_var 10 rfl) ve_int) (decide_eq_false h0)) (fun z => nomatch z) fun _ => ?_
            have so1 := (LO.ok e he h0).1
            have pu := u_pr hh (o := none) trivial g so1
            have pm := pe.1.mul pu
            have et : trm (U h none g) e = e.2 * U h none g e.1 := by unfold trm; rw [if_neg h0]
            by_cases hg0 : 0 < g
            · refine gb_if (vt_eq (vt_gt (ve_var 4 rfl) ve_int) (decide_eq_true (by omega))) (fun _ => ?_) fun z => nomatch z
              refine gb_set 9 (ve_eq (ve_call ((df_law_plus T).up (by decide : 2 ≤ 4)) hr (va_cons (ve_var 9 rfl) (va_cons (ve_call ((df_law_times T).up (by decide : 2 ≤ 4)) hr (va_cons (ve_var 12 rfl) (va_cons (ve_dget (k := e.1) (d := fr (U h none g e.1)) (hu_of hr) (ve_var 2 rfl) (ve_tupK (i := e.1.1) (j := e.1.2) (va_cons (ve_var 10 rfl) (va_cons (ve_var 11 rfl) va_nil))) ?_) va_nil)) ⟨e.2, _, rfl, pe.1.sm (by decide), pu.sm (by omega), rfl⟩) va_nil)) ⟨v, _, rfl, p1.sm (by omega), pm.sm (by omega), rfl⟩)
                (?_ : fr (v + e.2 * U h none g e.1) = fr (v + trm (U h none g) e))) (gb_thn rfl (gb_thn rfl (gb_fin rfl (by walk_at "WK")))) sc_law_least.nd
              · rw [look_map, later z hzm t ht e he h0 hg0]; rfl
              · rw [et]
            · have eg : g = 0 := by omega
              refine gb_ifNo (vt_eq (vt_gt (ve_var 4 rfl) ve_int) (decide_eq_false (by omega))) (gb_thn rfl (gb_fin rfl ?_))
              have e0 : v + trm (U h none g) e = v := by
                rw [et, eg]
                show v + e.2 * 0 = v
                rw [Rat.mul_zero, Rat.add_zero]
              show Weak _ [_, _, _, _, _, _, _, _, _, .dat (fr (v + trm (U h none g) e)), _, _, _]
              rw [e0]
              walk_at "WK"
        · have ev : (lyr h z t).foldl (fun v e => v + trm (U h none g) e) 0 = stepV h (U h none g) z t := by
            rw [foldl_sum, Rat.zero_add, ← lyr_step hh zo.1 ht]
          rw [ev]
          cases acc with
          | none =>
            refine gb_if (vt_eq (k' := true) (vw_pt (vw_or (k' := true) (vt_isN (ve_var 7 rfl)) fun z => nomatch z)) rfl) (fun _ => ?_) fun z => nomatch z
            refine gb_set 7 (ve_var 9 rfl) ?_ sc_law_least.nd
            refine gb_set 3 (ve_var 8 rfl) ?_ sc_law_least.nd
            refine gb_thn rfl (gb_fin rfl ?_)
            show Weak _ [_, _, _, .dat (.int (t : Int)), _, _, _, .dat (fr (stepV h (U h none g) z t)), _, _, _, _, _]
            walk_at "WK"
          | some b =>
            obtain ⟨v0, u0⟩ := b
            have p0 := acc_ok v0 u0 rfl
            have hstep : pickS (stepV h (U h none g) z) (some (v0, u0)) t = if stepV h (U h none g) z t < v0 then some (stepV h (U h none g) z t, t) else some (v0, u0) := rfl
            rw [hstep]
            by_cases c : stepV h (U h none g) z t < v0
            · rw [if_pos c]
              refine gb_if (vt_eq (k' := true) (vw_pt (vw_or (vt_isN (ve_var 7 rfl)) fun _ => vw_or1 (vt_val (ve_call ((df_law_less T).up (by decide : 1 ≤ 4)) hr (va_cons (ve_var 9 rfl) (va_cons (ve_var 7 rfl) va_nil)) ⟨_, v0, rfl, so.pr.sm (by omega), p0.sm (by omega), rfl⟩)))) ?_) (fun _ => ?_) fun z => nomatch z
              · rw [decide_eq_true c]; rfl
              · refine gb_set 7 (ve_var 9 rfl) ?_ sc_law_least.nd
                refine gb_set 3 (ve_var 8 rfl) ?_ sc_law_least.nd
                refine gb_thn rfl (gb_fin rfl ?_)
                show Weak _ [_, _, _, .dat (.int (t : Int)), _, _, _, .dat (fr (stepV h (U h none g) z t)), _, _, _, _, _]
                walk_at "WK"
            · rw [if_neg c]
              refine gb_ifNo (vt_eq (vw_pt (vw_or (vt_isN (ve_var 7 rfl)) fun _ => vw_or1 (vt_val (ve_call ((df_law_less T).up (by decide : 1 ≤ 4)) hr (va_cons (ve_var 9 rfl) (va_cons (ve_var 7 rfl) va_nil)) ⟨_, v0, rfl, so.pr.sm (by omega), p0.sm (by omega), rfl⟩)))) ?_) (gb_fin rfl (by walk_at "WK"))
              rw [decide_eq_false c]; rfl
      · have ep : (List.range h.ts.length).foldl (pickS (stepV h (U h none g) z)) none = some (U h none (g + 1) z, Ar h none g z) := u_pick hh none g z
        rw [ep]
        refine gb_dputT 5 0 (k := z) (d := fr (U h none (g + 1) z)) (hu_of hr) rfl rfl (ve_var 6 rfl) (ve_var 7 rfl) (by rw [List.length_map, List.length_take]; omega) ?_
        refine gb_nil fun σ H' s' => ⟨x + 1, rfl, ?_⟩
        refine sa_eq s' ?_ ?_
        · show [(a, MO.mT (put _ _ _))] = [(a, MO.mT _)]
          have nw : z ∉ ((l.take x).map fun z => (z, fr (U h none (g + 1) z))).map (·.1) := by
            rw [List.map_map]
            intro hm
            have e0 : (l.take x).map ((fun y : Stt × PyData => y.1) ∘ fun z => (z, fr (U h none (g + 1) z))) = l.take x := List.map_id _
            rw [e0] at hm
            obtain ⟨n, hn⟩ := List.getElem?_of_mem hm
            rw [List.getElem?_take] at hn
            split at hn
            · have := nd_ix L.nd hn hz
              omega
            · cases hn
          rw [put_new nw, List.take_add_one, hz, List.map_append]
          rfl
        · show Weak [_, _, _, .dat (.int (Ar h none g z : Nat)), _, _, _, _, _, _, _, _, _] [_, _, _, sl (x + 1), _, _, _, _, _, _, _, _, _]
          have e1 : sl (x + 1) = .dat (.int (Ar h none g z : Nat)) := by
            show (if x + 1 = 0 then SD.any else .dat (.int (Ar h none g (l.getD (x + 1 - 1) st) : Nat))) = _
            rw [if_neg (by omega), List.getD_eq_getElem?_getD, Nat.add_sub_cancel, hz]
            rfl
          rw [e1]
          walk_at "WK"
    · rw [List.length_map] at hx
      subst hx
      refine gb_frz 5 0 rfl rfl rfl ?_
      refine gb_set 2 (ve_var 5 rfl) ?_ sc_law_least.nd
      refine gb_nil fun σ H' s' => ⟨g + 1, rfl, s'.weak ?_⟩
      have e1 : ltL h ls (g + 1) = l.map fun z => (z, U h none (g + 1) z) := by
        unfold ltL
        rw [if_neg (by omega), List.getD_eq_getElem?_getD, hlen, show m + 1 - (g + 1) = m - g by omega, hi]
        rfl
      have e2 : (l.take l.length).map (fun z => (z, fr (U h none (g + 1) z))) = (ltL h ls (g + 1)).map fun x => (x.1, fr x.2) := by
        rw [e1, List.take_length, List.map_map]
        rfl
      show Weak [_, _, .dat (.dict (kvE ((l.take l.length).map fun z => (z, fr (U h none (g + 1) z))))), sl l.length, _, _, _, _, _, _, _, _, _] [_, _, .dat (encTab (ltL h ls (g + 1))), s3 (g + 1), _, _, _, _, _, _, _, _, _]
      rw [e2]
      by_cases hgm : g = m
      · have el : l = [st] := by
          rw [hgm, Nat.sub_self, R.at0] at hi
          exact (Option.some.inj hi).symm
        have e3 : s3 (g + 1) = .dat (.int (Ar h none m st : Nat)) := if_pos (by omega)
        have e4 : sl l.length = .dat (.int (Ar h none m st : Nat)) := by
          show (if l.length = 0 then SD.any else .dat (.int (Ar h none g (l.getD (l.length - 1) st) : Nat))) = _
          rw [el, hgm]
          rfl
        rw [e3, e4]
        walk_at "WK"
      · have e3 : s3 (g + 1) = .any := if_neg (by omega)
        rw [e3]
        walk_at "WK"
  · rw [Int.toNat_natCast] at hg
    subst hg
    have e3 : s3 (m + 1) = .dat (.int (Ar h none m st : Nat)) := if_pos rfl
    have e1 : ltL h ls (m + 1) = [(st, U h none (m + 1) st)] := by
      unfold ltL
      rw [if_neg (by omega), List.getD_eq_getElem?_getD, hlen, Nat.sub_self, R.at0]
      rfl
    refine gb_weak (ρ := [.dat (encH h), .dat (encRe ls), .dat (encTab [(st, U h none (m + 1) st)]), .dat (.int (Ar h none m st : Nat)), .any, .any, .any, .any, .any, .any, .any, .any, .any]) ?_ ?_
    · show Weak [_, _, .dat (encTab (ltL h ls (m + 1))), s3 (m + 1), _, _, _, _, _, _, _, _, _] _
      rw [e3, e1]
      walk_at "WK"
    · refine gb_ret (ve_tup (va_cons (ve_dget (k := st) (d := fr (U h none (m + 1) st)) (hu_of hr) (ve_var 2 rfl) (ve_ixL (ve_ixL (ve_var 1 rfl) ve_int (d := .list ([st].map stD)) ?_) ve_int (d := stD st) rfl) ?_) (va_cons (ve_var 3 rfl) va_nil)))
      · show atI (ls.map fun l => PyData.list (l.map stD)) ((0 : Nat) : Int) = _
        exact atI_nat (by rw [List.getElem?_map, R.at0]; rfl)
      · show look [(st, fr (U h none (m + 1) st))] st = _
        rw [look_cons, if_pos rfl]
end
end LC

namespace LC
open PySem PySem.Spec PyProof.Rows L2 DL
local macro_rules | `(tactic| walk_at "WK") => `(tactic| repeat (first | exact Weak.nil | refine Weak.same ?_ | refine Weak.drop ?_))

/-! ### going forwards -/
def sr (t : List (Stt × Rat)) : List (Stt × Rat) := (srt (t.map (·.1))).map fun z => (z, (look t z).getD 0)
theorem sr_perm {t : List (Stt × Rat)} (nd : (t.map (·.1)).Nodup) : (sr t).Perm t := by
  have h1 : (sr t).Perm ((t.map (·.1)).map fun v => (v, (look t v).getD 0)) := (srt_perm _).map _
  refine h1.trans ?_
  rw [List.map_map, List.map_congr_left (g := id) (fun x hx => ?_), List.map_id]
  show (x.1, (look t x.1).getD 0) = x
  rw [look_mem nd (b := x.2) hx]
  rfl
def evL (h : Hse) (pl : Plan) (x : Stt × Rat) : List Ev := (lyr h x.1 (choose pl x.1)).map fun e => (e.1, x.2 * e.2)
theorem RestOk.sr {kk : Nat} {h : Hse} {B : Int} {g : Fw} (r : RestOk kk h B g) : RestOk kk h B (g.1, LC.sr g.2) := by
  have p := sr_perm r.nd
  exact ⟨r.pr, (p.map (·.1)).nodup_iff.mpr r.nd, fun x hx => r.tb x (p.subset hx), fun x hx => r.ok x (p.subset hx), by show g.1 + sumF (·.2) (LC.sr g.2) = 1; rw [sumF_perm p]; exact r.tot⟩
theorem evL_ok {h : Hse} (hh : HseOk h) {pl : Plan} (hpl : PlanOk h pl) {kk : Nat} {B : Int} {g : Fw} (r : RestOk kk h B g) : EvsOk (kk + 4) h (B + 30) g.2 (evL h pl) := by
  have hc : ∀ x ∈ g.2, choose pl x.1 < h.ts.length := fun x hx => by
    obtain ⟨_, _, _, _, _, h1⟩ := choose_at hpl (r.ok x hx).1
    exact h1
  refine ⟨fun x hx e he => ?_, fun x hx => ?_, fun x hx e he h0 => ?_, fun x hx => ?_⟩
  · obtain ⟨e', he', rfl⟩ := List.mem_map.mp he
    have L := (lyr_ok hh (r.ok x hx).1 (hc x hx)).pr e' he'
    exact ⟨(r.tb x hx).1.mul L.1, Rat.mul_pos (r.tb x hx).2 L.2⟩
  · unfold evL
    rw [sumF_map]
    show sumF (fun e : Ev => x.2 * e.2) _ = _
    rw [sumF_mul, (lyr_ok hh (r.ok x hx).1 (hc x hx)).tot, Rat.mul_one]
  · obtain ⟨e', he', rfl⟩ := List.mem_map.mp he
    have L := (lyr_ok hh (r.ok x hx).1 (hc x hx)).ok e' he' h0
    have := (r.ok x hx).2
    exact ⟨L.1, by have := L.2; show e'.1.1 ≤ B + 30; omega⟩
  · unfold evL
    rw [List.length_map]
    exact (lyr_ok hh (r.ok x hx).1 (hc x hx)).len
def outL (h : Hse) (pl : Plan) (s : Stt) : Nat → Fw
  | 0 => (0, [(s, 1)])
  | k + 1 => yearF (evL h pl) ((outL h pl s k).1, sr (outL h pl s k).2)
theorem outL_ok {h : Hse} (hh : HseOk h) {pl : Plan} (hpl : PlanOk h pl) {s : Stt} (hs : StOk h s) : ∀ k : Nat, RestOk (4 * k) h (s.1 + 30 * (k : Int)) (outL h pl s k)
  | 0 => by
    have := rest0 hs
    rw [show s.1 + 30 * ((0 : Nat) : Int) = s.1 by omega]
    exact this
  | k + 1 => by
    have r := (outL_ok hh hpl hs k).sr
    have := (year_ok r (by omega) (evL_ok hh hpl r)).2
    rw [show s.1 + 30 * ((k + 1 : Nat) : Int) = s.1 + 30 * (k : Int) + 30 by omega]
    exact this
theorem outL_fold (h : Hse) (pl : Plan) (s : Stt) (k : Nat) : (List.range k).foldl (fun g (_ : Nat) => yearF (evL h pl) (g.1, sr g.2)) (0, [(s, 1)]) = outL h pl s k := by
  induction k with
  | zero => rfl
  | succ k ih => rw [List.range_succ, List.foldl_append, ih]; rfl
/-- both ways give the same -/
def gR (h : Hse) (pl : Plan) (z : Stt) : Rat := sumF (fun c => c.2 * (if z.1 + c.1 < 0 then 1 else 0)) (chg h z.2.toNat (choose pl z))
def gF (h : Hse) (pl : Plan) (F : Stt → Rat) (z : Stt) : Rat := sumF (fun c => c.2 * (if z.1 + c.1 < 0 then 0 else innr h F (z.1 + c.1) z.2.toNat)) (chg h z.2.toNat (choose pl z))
theorem evP_ru (h : Hse) (pl : Plan) (x : Stt × Rat) : sumF (fun e => if e.1.1 < 0 then e.2 else 0) (evP h pl x) = x.2 * gR h pl x.1 := by
  unfold evP gR
  rw [sumF_flatMap, ← sumF_mul]
  refine sumF_congr fun c _ => ?_
  unfold evX
  by_cases h0 : x.1.1 + c.1 < 0
  · rw [if_pos h0, if_pos h0]
    show (if x.1.1 + c.1 < 0 then x.2 * c.2 else 0) + 0 = x.2 * (c.2 * 1)
    rw [if_pos h0]
    grind
  · rw [if_neg h0, if_neg h0, sumF_map]
    have z : sumF (fun y : Int × Rat => if x.1.1 + c.1 < 0 then x.2 * c.2 * y.2 else 0) (tns h x.1.2.toNat) = sumF (fun y : Int × Rat => (0 : Rat) * y.2) (tns h x.1.2.toNat) := sumF_congr fun y _ => by rw [if_neg h0, Rat.zero_mul]
    refine Eq.trans z ?_
    rw [sumF_mul]
    grind
theorem evP_fn (h : Hse) (pl : Plan) (F : Stt → Rat) (x : Stt × Rat) : sumF (fun e => if e.1.1 < 0 then 0 else e.2 * F e.1) (evP h pl x) = x.2 * gF h pl F x.1 := by
  unfold evP gF
  rw [sumF_flatMap, ← sumF_mul]
  refine sumF_congr fun c _ => ?_
  unfold evX
  by_cases h0 : x.1.1 + c.1 < 0
  · rw [if_pos h0, if_pos h0]
    show (if x.1.1 + c.1 < 0 then 0 else x.2 * c.2 * F (x.1.1 + c.1, 0)) + 0 = x.2 * (c.2 * 0)
    rw [if_pos h0]
    grind
  · rw [if_neg h0, if_neg h0, sumF_map]
    unfold innr
    rw [← sumF_mul, ← sumF_mul]
    refine sumF_congr fun y _ => ?_
    show (if x.1.1 + c.1 < 0 then 0 else x.2 * c.2 * y.2 * F (x.1.1 + c.1, y.1)) = x.2 * (c.2 * (y.2 * F (x.1.1 + c.1, y.1)))
    rw [if_neg h0]
    grind
theorem evL_ru {h : Hse} (hh : HseOk h) {pl : Plan} (hpl : PlanOk h pl) {x : Stt × Rat} (hx : StOk h x.1) : sumF (fun e => if e.1.1 < 0 then e.2 else 0) (evL h pl x) = x.2 * gR h pl x.1 := by
  obtain ⟨_, _, _, _, _, hc⟩ := choose_at hpl hx
  have h1 := lyr_sum hh hx hc fun k => if k.1 < 0 then 1 else 0
  unfold evL gR
  rw [sumF_map, ← sumF_mul]
  have e1 : sumF (fun e : Ev => if e.1.1 < 0 then x.2 * e.2 else 0) (lyr h x.1 (choose pl x.1)) = x.2 * sumF (fun e => e.2 * (if e.1.1 < 0 then 1 else 0)) (lyr h x.1 (choose pl x.1)) := by
    rw [← sumF_mul]
    refine sumF_congr fun e _ => ?_
    split <;> grind
  refine Eq.trans e1 ?_
  rw [h1, ← sumF_mul]
  refine sumF_congr fun c _ => ?_
  by_cases h0 : x.1.1 + c.1 < 0
  · have e2 : sumF (fun y : Int × Rat => y.2 * (if x.1.1 + c.1 < 0 then 1 else 0)) (tns h x.1.2.toNat) = 1 := by
      rw [sumF_congr (g := (·.2)) fun y _ => by rw [if_pos h0, Rat.mul_one]]
      exact (tns_ok hh hx.lt).sp.tot
    rw [e2, if_pos h0]
  · have e2 : sumF (fun y : Int × Rat => y.2 * (if x.1.1 + c.1 < 0 then 1 else 0)) (tns h x.1.2.toNat) = 0 := by
      rw [sumF_congr (g := fun y => (0 : Rat) * y.2) fun y _ => by rw [if_neg h0, Rat.mul_zero, Rat.zero_mul], sumF_mul, Rat.zero_mul]
    rw [e2, if_neg h0]
theorem evL_fn {h : Hse} (hh : HseOk h) {pl : Plan} (hpl : PlanOk h pl) (F : Stt → Rat) {x : Stt × Rat} (hx : StOk h x.1) : sumF (fun e => if e.1.1 < 0 then 0 else e.2 * F e.1) (evL h pl x) = x.2 * gF h pl F x.1 := by
  obtain ⟨_, _, _, _, _, hc⟩ := choose_at hpl hx
  have h1 := lyr_sum hh hx hc fun k => if k.1 < 0 then 0 else F k
  unfold evL gF
  rw [sumF_map, ← sumF_mul]
  have e1 : sumF (fun e : Ev => if e.1.1 < 0 then 0 else x.2 * e.2 * F e.1) (lyr h x.1 (choose pl x.1)) = x.2 * sumF (fun e => e.2 * (if e.1.1 < 0 then 0 else F e.1)) (lyr h x.1 (choose pl x.1)) := by
    rw [← sumF_mul]
    refine sumF_congr fun e _ => ?_
    split <;> grind
  refine Eq.trans e1 ?_
  rw [h1, ← sumF_mul]
  refine sumF_congr fun c _ => ?_
  by_cases h0 : x.1.1 + c.1 < 0
  · have e2 : sumF (fun y : Int × Rat => y.2 * (if x.1.1 + c.1 < 0 then 0 else F (x.1.1 + c.1, y.1))) (tns h x.1.2.toNat) = 0 := by
      rw [sumF_congr (g := fun y => (0 : Rat) * y.2) fun y _ => by rw [if_pos h0, Rat.mul_zero, Rat.zero_mul], sumF_mul, Rat.zero_mul]
    rw [e2, if_pos h0]
  · have e2 : sumF (fun y : Int × Rat => y.2 * (if x.1.1 + c.1 < 0 then 0 else F (x.1.1 + c.1, y.1))) (tns h x.1.2.toNat) = innr h F (x.1.1 + c.1) x.1.2.toNat := sumF_congr fun y _ => by rw [if_neg h0]
    rw [e2, if_neg h0]
/-- two tables that no sum tells apart -/
def SameT (t u : List (Stt × Rat)) : Prop := ∀ F : Stt → Rat, sumF (fun x => x.2 * F x.1) t = sumF (fun x => x.2 * F x.1) u
theorem out_same {h : Hse} (hh : HseOk h) {pl : Plan} (hpl : PlanOk h pl) {s : Stt} (hs : StOk h s) : ∀ k : Nat, (outL h pl s k).1 = (outP h pl s k).1 ∧ SameT (outL h pl s k).2 (outP h pl s k).2
  | 0 => ⟨rfl, fun F => rfl⟩
  | k + 1 => by
    obtain ⟨e1, e2⟩ := out_same hh hpl hs k
    have rP := outP_ok hh hpl hs k
    have rL0 := outL_ok hh hpl hs k
    have rL := rL0.sr
    obtain ⟨yP, _⟩ := year_ok rP (Nat.le_add_right _ 4) (evP_ok hh hpl rP)
    obtain ⟨yL, _⟩ := year_ok rL (Nat.le_add_right _ 4) (evL_ok hh hpl rL)
    have pm := sr_perm rL0.nd
    refine ⟨?_, fun F => ?_⟩
    · refine yL.ru.trans (Eq.trans ?_ yP.ru.symm)
      show (outL h pl s k).1 + _ = _
      rw [e1]
      congr 1
      rw [sumF_congr (g := fun x => x.2 * gR h pl x.1) fun x hx => evL_ru hh hpl (rL.ok x hx).1, sumF_congr (g := fun x => x.2 * gR h pl x.1) fun x _ => evP_ru h pl x]
      exact (sumF_perm pm).trans (e2 (gR h pl))
    · refine (yL.fn F).trans (Eq.trans ?_ (yP.fn F).symm)
      rw [sumF_congr (g := fun x => x.2 * gF h pl F x.1) fun x hx => evL_fn hh hpl F (rL.ok x hx).1, sumF_congr (g := fun x => x.2 * gF h pl F x.1) fun x _ => evP_fn h pl F x]
      exact (sumF_perm pm).trans (e2 (gF h pl F))
theorem tab_val : ∀ {t : List (Stt × Rat)} (z : Stt), (t.map (·.1)).Nodup → (look t z).getD 0 = sumF (fun x => x.2 * (if x.1 = z then 1 else 0)) t
  | [], z, _ => rfl
  | (k, b) :: t, z, nd => by
    rw [List.map_cons, List.nodup_cons] at nd
    rw [look_cons]
    show _ = b * (if k = z then 1 else 0) + sumF _ t
    rw [← tab_val z nd.2]
    by_cases e : k = z
    · subst e
      rw [if_pos rfl, if_pos rfl, look_none nd.1]
      show b = b * 1 + 0
      grind
    · rw [if_neg e, if_neg e]
      grind
theorem encF_same {kk : Nat} {h : Hse} {B : Int} {g g' : Fw} (r : RestOk kk h B g) (r' : RestOk kk h B g') (e : g.1 = g'.1) (S : SameT g.2 g'.2) : encF g = encF g' := by
  have val : ∀ z, (look g.2 z).getD 0 = (look g'.2 z).getD 0 := fun z => by rw [tab_val z r.nd, tab_val z r'.nd]; exact S fun k => if k = z then 1 else 0
  have key : ∀ {g g' : Fw}, RestOk kk h B g → RestOk kk h B g' → (∀ z, (look g.2 z).getD 0 = (look g'.2 z).getD 0) → ∀ z, z ∈ g.2.map (·.1) → z ∈ g'.2.map (·.1) := fun {g g'} r r' val z hz => by
    obtain ⟨x, hx, rfl⟩ := List.mem_map.mp hz
    have h1 := r.mem hx
    have h2 := (r.tb x hx).2
    have h3 := val x.1
    rw [h1] at h3
    cases e : look g'.2 x.1 with
    | none =>
      rw [e] at h3
      have h3 : x.2 = 0 := h3
      rw [h3] at h2
      exact absurd h2 (by decide)
    | some b => exact List.mem_map.mpr ⟨_, look_some e, rfl⟩
  have pm : (g.2.map (·.1)).Perm (g'.2.map (·.1)) := (List.perm_ext_iff_of_nodup r.nd r'.nd).mpr fun z => ⟨key r r' val z, key r' r (fun z => (val z).symm) z⟩
  have es : srt (g.2.map (·.1)) = srt (g'.2.map (·.1)) := srt_uniq ((srt_perm _).trans (pm.trans (srt_perm _).symm)) (srt_sorted _) (srt_sorted _)
  unfold encF
  rw [e, es]
  have em : (srt (g'.2.map (·.1))).map (fun z => PyData.tuple [.int z.1, .int z.2, fr ((look g.2 z).getD 0)]) = (srt (g'.2.map (·.1))).map fun z => PyData.tuple [.int z.1, .int z.2, fr ((look g'.2 z).getD 0)] := List.map_congr_left fun z _ => by rw [val z]
  rw [em]
theorem out_enc {h : Hse} (hh : HseOk h) {pl : Plan} (hpl : PlanOk h pl) {s : Stt} (hs : StOk h s) (k : Nat) : encF (outL h pl s k) = encF (outP h pl s k) :=
  encF_same (outL_ok hh hpl hs k) (outP_ok hh hpl hs k) (out_same hh hpl hs k).1 (out_same hh hpl hs k).2
/-- going forwards gives the plan's chance of ruin -/
theorem plan_split {h : Hse} {pl : Plan} (n : Nat) (z : Stt) : U h (some pl) (n + 1) z = gR h pl z + gF h pl (U h (some pl) n) z := by
  rw [u_plan]
  unfold stepV gR gF
  rw [← sumF_add]
  refine sumF_congr fun c _ => ?_
  unfold stp1
  split <;> grind
theorem out_ruin {h : Hse} (hh : HseOk h) {pl : Plan} (hpl : PlanOk h pl) {s : Stt} (hs : StOk h s) (n : Nat) : (outP h pl s n).1 = U h (some pl) n s := by
  have key : ∀ k, k ≤ n → (outP h pl s k).1 + sumF (fun x => x.2 * U h (some pl) (n - k) x.1) (outP h pl s k).2 = U h (some pl) n s := by
    intro k
    induction k with
    | zero =>
      intro _
      show (0 : Rat) + (1 * U h (some pl) n s + 0) = _
      grind
    | succ k ih =>
      intro hk
      have h1 := ih (by omega)
      have r := outP_ok hh hpl hs k
      obtain ⟨y, _⟩ := year_ok r (Nat.le_add_right _ 4) (evP_ok hh hpl r)
      rw [← h1]
      have e1 := y.ru
      have e2 := y.fn (U h (some pl) (n - (k + 1)))
      show (yearF (evP h pl) (outP h pl s k)).1 + sumF _ (yearF (evP h pl) (outP h pl s k)).2 = _
      rw [e1, e2, sumF_congr (g := fun x => x.2 * gR h pl x.1) fun x _ => evP_ru h pl x, sumF_congr (g := fun x => x.2 * gF h pl (U h (some pl) (n - (k + 1))) x.1) fun x _ => evP_fn h pl _ x, Rat.add_assoc, ← sumF_add]
      congr 1
      refine sumF_congr fun x _ => ?_
      have e3 : n - k = n - (k + 1) + 1 := by omega
      rw [e3, plan_split]
      grind
  have h1 := key n (Nat.le_refl _)
  rw [Nat.sub_self] at h1
  have z : sumF (fun x : Stt × Rat => x.2 * U h (some pl) 0 x.1) (outP h pl s n).2 = 0 := by
    rw [sumF_congr (g := fun x : Stt × Rat => (0 : Rat) * x.2) fun x _ => by show x.2 * 0 = 0 * x.2; grind, sumF_mul, Rat.zero_mul]
  rw [z, Rat.add_zero] at h1
  exact h1
/-- no plan does better -/
theorem plan_ge {h : Hse} (hh : HseOk h) {pl : Plan} (hpl : PlanOk h pl) : ∀ (n : Nat) {s : Stt}, StOk h s → U h none n s ≤ U h (some pl) n s
  | 0, _, _ => Rat.le_refl
  | n + 1, s, hs => by
    obtain ⟨_, _, _, _, _, hc⟩ := choose_at hpl hs
    refine Rat.le_trans ((u_best hh n s).2.2 _ hc) ?_
    rw [u_plan]
    refine sumF_le fun x hx => ?_
    have px := (chg_ok hh hs.lt hc).pr x hx
    unfold stp1
    refine Rat.mul_le_mul_of_nonneg_left ?_ px.1.pos
    by_cases h0 : s.1 + x.1 < 0
    · rw [if_pos h0, if_pos h0]; exact Rat.le_refl
    · rw [if_neg h0, if_neg h0]
      refine sumF_le fun y hy => ?_
      exact Rat.mul_le_mul_of_nonneg_left (plan_ge hh hpl n (next_ok hh hs (by omega) hy)) ((tns_ok hh hs.lt).sp.pr y hy).1.pos
def rForw (ds : List PyData) (d : PyData) : Prop := ∃ (h : Hse) (pl : Plan) (s : Stt) (n : Nat), ds = [encH h, encP pl, stD s, .int (n : Int)] ∧ HseOk h ∧ PlanOk h pl ∧ StOk h s ∧ s.1 ≤ 100 ∧ n ≤ 10 ∧ d = encF (outL h pl s n)
section
variable {P : Program} {w : World} {K : PySem.W.Frag} {mg : Str → Option Value} {base : Heap}
theorem df_law_forward (T : Tx K mg) : DF P w K mg base "_law_forward" 5 rForw := by
  obtain ⟨f, fd, hm, F⟩ := T.g_law_forward
  refine df_mk hm F sc_law_forward (bind4 F) (fun ds d h => by obtain ⟨h, pl, s, n, rfl, _⟩ := h; rfl) fun cdv A outer s H E os ds d hr h => ?_
  obtain ⟨h, pl, st, n, rfl, hh, hpl, hs, hr100, hn, rfl⟩ := h
  refine gb_set 4 (ve_disp1 (k := st) (d := fr 1) hr.units0 (fun q => ve_var 2 rfl) fun q => ve_tup (va_cons ve_int (va_cons ve_int va_nil))) ?_ sc_law_forward.nd
  refine gb_set 5 (d := fr 0) (ve_tup (va_cons ve_int (va_cons ve_int va_nil))) ?_ sc_law_forward.nd
  refine gb_foldR n 6 (fun g (_ : Nat) => yearF (evL h pl) (g.1, sr g.2)) ((0, [(st, 1)]) : Fw) (fun _ => []) (fun g => [.dat (encH h), .dat (encP pl), .dat (stD st), .dat (.int n), .dat (encTab g.2), .dat (fr g.1), .any, .any, .any, .any, .any, .any, .any, .any, .any]) T.b_range (by omega) (ve_var 3 rfl) (tg_nm sc_law_forward.nd) ⟨rfl, by walk_at "WK"⟩ (fun k hk => ?_) ?_ rfl
  · rw [outL_fold]
    have r0 := outL_ok hh hpl hs k
    generalize outL h pl st k = g at r0
    obtain ⟨ru, rest⟩ := g
    have r := r0.sr
    have eo := evL_ok hh hpl r
    have rl : (sr rest).length ≤ 1604 := (r.up (B' := ((400 : Nat) : Int)) (by omega)).len hh
    have e0 : (rest.map fun x => (x.1, fr x.2)).map (·.1) = rest.map (·.1) := by rw [List.map_map]; rfl
    refine gb_newT 7 (fun q => ?_) sc_law_forward.nd
    refine gb_fold (.nm 8) (sr rest) (fun x => stD x.1) (fun g x => (evL h pl x).foldl evS g) ((ru, []) : Fw) (fun g => [(q, .mT (g.2.map fun x => (x.1, fr x.2)))]) (fun g => [.dat (encH h), .dat (encP pl), .dat (stD st), .dat (.int n), .dat (encTab rest), .dat (fr g.1), .any, .val (.ref q), .any, .any, .any, .any, .any, .any, .any])
      (ve_eq (ve_sortedT (l := rest.map fun x => (x.1, fr x.2)) rfl T.b_sorted (ve_var 4 rfl)) ?_) (tg_nm sc_law_forward.nd) ⟨rfl, by walk_at "WK"⟩ (fun Hb hb j x hj => ⟨_, rfl, ?_⟩) ?_ rfl
    · rw [e0]
      show PyData.list _ = PyData.list _
      unfold sr
      rw [List.map_map]
      rfl
    · have hx := take_mem hj
      have hxo : StOk h x.1 := (r.ok x hx).1
      have px : Pr (4 * k) x.2 ∧ 0 < x.2 := r.tb x hx
      have hjl := (List.getElem?_eq_some_iff.mp hj).1
      have lx : look rest x.1 = some x.2 := by
        have p := sr_perm r0.nd
        exact r0.mem (p.subset hx)
      have eo1 : EvOk (4 * k + 4) (((sr rest).take j).foldl (fun g x => (evL h pl x).foldl evS g) (ru, [])) x.2 (j * 108) := by rw [← fold_flat]; exact EvOk.at r (by omega) eo hj
      generalize ((sr rest).take j).foldl (fun g x => (evL h pl x).foldl evS g) (ru, []) = g0 at eo1
      obtain ⟨row, g1, i0, g2, g3, hct⟩ := choose_at hpl hxo
      have L := lyr_ok hh hxo hct
      have Ll := L.len
      refine gb_set 9 (ve_ixL (ve_var 1 rfl) (ve_ixK1 (ve_var 8 rfl)) (d := .list (row.map fun (t : Nat) => PyData.int (t : Int))) ?_) ?_ sc_law_forward.nd
      · rw [hxo.cast]
        exact atI_nat (by rw [List.getElem?_map, g1]; rfl)
      refine gb_fold (.three 10 11 12) (lyr h x.1 (choose pl x.1)) enc3 (fun g e => evS g (e.1, x.2 * e.2)) g0 (fun g => [(q, .mT (g.2.map fun x => (x.1, fr x.2)))]) (fun g => [.dat (encH h), .dat (encP pl), .dat (stD st), .dat (.int n), .dat (encTab rest), .dat (fr g.1), .any, .val (.ref q), .dat (stD x.1), .any, .any, .any, .any, .any, .any])
        (ve_call (df_law_year T) hr (va_cons (ve_var 0 rfl) (va_cons (ve_ixK0 (ve_var 8 rfl)) (va_cons (ve_ixK1 (ve_var 8 rfl)) (va_cons (ve_chosen (s := x.1) rfl T.b_min T.b_len (ve_var 9 rfl) (ve_ixK0 (ve_var 8 rfl)) (ve_eq (ve_sub (ve_len T.b_len (ve_var 9 rfl)) ve_int) (by rw [List.length_map])) g2 g3) va_nil)))) ⟨h, x.1, choose pl x.1, rfl, hh, hxo, hct, rfl⟩)
        (tg_three rfl sc_law_forward.nd) ⟨rfl, by walk_at "WK"⟩ (fun Hb2 hb2 i e hi => ⟨_, rfl, ?_⟩) ?_ rfl
      · have he := take_mem hi
        have hil := (List.getElem?_eq_some_iff.mp hi).1
        have pe := L.pr e he
        have pm : Pr (4 * k + 4) (x.2 * e.2) := px.1.mul pe.1
        have zm : 0 < x.2 * e.2 := Rat.mul_pos px.2 pe.2
        have eo2 : EvOk (4 * k + 4) (((lyr h x.1 (choose pl x.1)).take i).foldl (fun g e => evS g (e.1, x.2 * e.2)) g0) (x.2 * e.2) (j * 108 + i) := by
          have e3 : ((lyr h x.1 (choose pl x.1)).take i).foldl (fun g e => evS g (e.1, x.2 * e.2)) g0 = (((lyr h x.1 (choose pl x.1)).take i).map fun e => ((e.1, x.2 * e.2) : Ev)).foldl evS g0 := by rw [List.foldl_map]
          rw [e3]
          have s2 : sumF (·.2) ((lyr h x.1 (choose pl x.1)).take i) + e.2 ≤ 1 := sum_take hi (fun y hy => (L.pr y hy).1.pos) (by rw [L.tot]; exact Rat.le_refl)
          have s3 : x.2 * (sumF (·.2) ((lyr h x.1 (choose pl x.1)).take i) + e.2) ≤ x.2 * 1 := Rat.mul_le_mul_of_nonneg_left s2 px.1.pos
          refine (EvOk.run _ eo1 (b' := x.2 * e.2) (fun e' he' => ?_) ?_ pm.pos).less Rat.le_refl ?_
          · obtain ⟨y', hy', rfl⟩ := List.mem_map.mp he'
            have py' := L.pr y' ((List.take_sublist i _).subset hy')
            exact ⟨px.1.mul py'.1, Rat.mul_pos px.2 py'.2⟩
          · rw [sumF_map]
            show sumF (fun y : Ev => x.2 * y.2) _ + _ ≤ _
            rw [sumF_mul]
            grind
          · rw [List.length_map, List.length_take]
            omega
        generalize ((lyr h x.1 (choose pl x.1)).take i).foldl (fun g e => evS g (e.1, x.2 * e.2)) g0 = g1' at eo2
        refine gb_set 13 (ve_call ((df_law_times T).up (by decide : 2 ≤ 4)) hr (va_cons (ve_dget (k := x.1) (d := fr x.2) (hu_of hr) (ve_var 4 rfl) (ve_var 8 rfl) ?_) (va_cons (ve_var 12 rfl) va_nil)) ⟨x.2, e.2, rfl, px.1.sm (by omega), pe.1.sm (by decide), rfl⟩) ?_ sc_law_forward.nd
        · rw [look_map, lx]; rfl
        by_cases h0 : e.1.1 < 0
        · have er := eo2.ruin (e := (e.1, x.2 * e.2)) (b' := 0) pm (by show x.2 * e.2 + 0 ≤ _; rw [Rat.add_zero]; exact Rat.le_refl) Rat.le_refl h0
          refine gb_if (vt_eq (vt_lt (ve_var 10 rfl) ve_int) (decide_eq_true h0)) (fun _ => ?_) fun z => nomatch z
          refine gb_set 5 (ve_call ((df_law_plus T).up (by decide : 2 ≤ 4)) hr (va_cons (ve_var 5 rfl) (va_cons (ve_var 13 rfl) va_nil)) ⟨g1'.1, x.2 * e.2, rfl, eo2.pr.sm (by omega), pm.sm (by omega), rfl⟩) (gb_thn rfl ?_) sc_law_forward.nd
          rw [er.1]
          exact gb_finM rfl rfl (by walk_at "WK")
        · obtain ⟨l1, l2, l3⟩ := eo2.live (e := (e.1, x.2 * e.2)) (b' := 0) pm zm (by show x.2 * e.2 + 0 ≤ _; rw [Rat.add_zero]; exact Rat.le_refl) Rat.le_refl h0
          refine gb_if (vt_eq (vt_lt (ve_var 10 rfl) ve_int) (decide_eq_false h0)) (fun z => nomatch z) fun _ => ?_
          rw [l1]
          refine gb_set 14 (ve_tupK (i := e.1.1) (j := e.1.2) (va_cons (ve_var 10 rfl) (va_cons (ve_var 11 rfl) va_nil))) ?_ sc_law_forward.nd
          refine gb_dputT 7 0 (k := e.1) (hu_of hr) rfl rfl (ve_var 14 rfl) (ve_call ((df_law_plus T).up (by decide : 2 ≤ 4)) hr (va_cons (ve_eq (ve_dgetT (k := e.1) (d := fr 0) 7 0 (hu_of hr) rfl rfl (ve_var 14 rfl) (ve_tup (va_cons ve_int (va_cons ve_int va_nil)))) (look_mapD fr e.1 _)) (va_cons (ve_var 13 rfl) va_nil)) ⟨_, x.2 * e.2, rfl, l3.sm (by omega), pm.sm (by omega), rfl⟩) ?_ ?_
          · rw [List.length_map]
            have h7 := eo2.len
            omega
          · refine gb_thn rfl (gb_finM rfl ?_ (by walk_at "WK"))
            show [(q, MO.mT (put _ _ _))] = [(q, MO.mT _)]
            rw [put_map]
            rfl
      · have e4 : (evL h pl x).foldl evS g0 = (lyr h x.1 (choose pl x.1)).foldl (fun g e => evS g (e.1, x.2 * e.2)) g0 := by unfold evL; rw [List.foldl_map]
        rw [e4]
        exact gb_finM rfl rfl (by walk_at "WK")
    · have e6 : (sr rest).foldl (fun g x => (evL h pl x).foldl evS g) (ru, []) = yearF (evL h pl) (ru, sr rest) := (fold_flat _ _ _).symm
      rw [e6]
      refine gb_frz 7 0 rfl rfl rfl ?_
      refine gb_set 4 (ve_var 7 rfl) ?_ sc_law_forward.nd
      exact gb_fin rfl (by walk_at "WK")
  · rw [outL_fold]
    have r := outL_ok hh hpl hs n
    have rl : (outL h pl st n).2.length ≤ 1604 := (r.up (B' := ((400 : Nat) : Int)) (by omega)).len hh
    generalize outL h pl st n = g at r rl
    obtain ⟨ru, rest⟩ := g
    have e1 : (rest.map fun x => (x.1, fr x.2)).map (·.1) = rest.map (·.1) := by rw [List.map_map]; rfl
    refine gb_ret (ve_eq (ve_tup (va_cons (ve_var 5 rfl) (va_cons (ve_lc (.nm 8) (srt (rest.map (·.1))) stD (fun _ => true) (fun z => .tuple [.int z.1, .int z.2, fr ((look rest z).getD 0)]) (ve_eq (ve_sortedT (l := rest.map fun x => (x.1, fr x.2)) rfl T.b_sorted (ve_var 4 rfl)) (by rw [e1])) (blkOk_by (own := [("_law_known", 8)]) rfl) (fun _ _ _ _ _ => tg_nm sc_law_forward.nd) ?_ ?_ rfl sc_law_forward.nd (by decide)) va_nil))) ?_)
    · intro Hb3 Da acc j z hst hz
      have hz1 := (srt_perm _).subset (take_mem hz)
      obtain ⟨x, hx, rfl⟩ := List.mem_map.mp hz1
      have lx := r.mem hx
      refine ⟨_, rfl, fun _ _ _ _ _ => vts_nil, fun _ _ _ _ _ _ => ve_eq (ve_tup (va_cons (ve_ixK0 (ve_var 8 rfl)) (va_cons (ve_ixK1 (ve_var 8 rfl)) (va_cons (ve_dget (k := x.1) (d := fr x.2) (hu_of hr) (ve_var 4 rfl) (ve_var 8 rfl) ?_) va_nil)))) ?_⟩
      · rw [look_map, lx]; rfl
      · show _ = PyData.tuple [.int x.1.1, .int x.1.2, fr ((look rest x.1).getD 0)]
        rw [lx]
        rfl
    · rw [(srt_perm _).length_eq, List.length_map]
      have rl : rest.length ≤ 1604 := rl
      omega
    · rw [List.filter_eq_self.mpr (fun _ _ => rfl)]
      rfl
end
end LC

namespace LC
open PySem PySem.Spec PyProof.Rows L2 DL

/-! ### data that can be shown and compared -/
structure Pw (k : Nat) (d : PyData) : Prop where
  nod : d.hasDict = false
  lay : d.canLay0 = true
  dep : d.depth ≤ k
structure Pd (k b : Nat) (d : PyData) : Prop where
  w : Pw k d
  sho : d.showable = true
  lea : d.leavesShort 13 = true
  blk : d.bulk ≤ b
theorem Pw.up {k j : Nat} {d : PyData} (h : Pw k d) (hk : k ≤ j) : Pw j d := ⟨h.nod, h.lay, Nat.le_trans h.dep hk⟩
theorem Pd.up {k j b c : Nat} {d : PyData} (h : Pd k b d) (hk : k ≤ j) (hb : b ≤ c) : Pd j c d := ⟨h.w.up hk, h.sho, h.lea, Nat.le_trans h.blk hb⟩
theorem pw_int (i : Int) : Pw 0 (.int i) := ⟨rfl, rfl, Nat.le_refl _⟩
theorem pw_all {k : Nat} : ∀ {ds : List PyData}, (∀ d ∈ ds, Pw k d) → PyData.hasDictAll ds = false ∧ PyData.canLayAll0 ds = true ∧ PyData.depthAll ds ≤ k
  | [], _ => ⟨rfl, rfl, Nat.zero_le _⟩
  | d :: ds, h => by
    obtain ⟨h1, h2, h3⟩ := pw_all (ds := ds) fun e he => h e (List.mem_cons_of_mem _ he)
    have hd := h d List.mem_cons_self
    exact ⟨by simp only [PyData.hasDictAll, hd.nod, h1, Bool.or_self], by simp only [PyData.canLayAll0, hd.lay, h2, Bool.and_self], by simp only [PyData.depthAll]; exact Nat.max_le.mpr ⟨hd.dep, h3⟩⟩
theorem pw_tup {k : Nat} {ds : List PyData} (h : ∀ d ∈ ds, Pw k d) : Pw (k + 1) (.tuple ds) := by
  obtain ⟨h1, h2, h3⟩ := pw_all h
  exact ⟨by simp only [PyData.hasDict, h1], by simp only [PyData.canLay0, h2], by simp only [PyData.depth]; omega⟩
theorem pw_lst {k : Nat} {ds : List PyData} (h : ∀ d ∈ ds, Pw k d) : Pw (k + 1) (.list ds) := by
  obtain ⟨h1, h2, h3⟩ := pw_all h
  exact ⟨by simp only [PyData.hasDict, h1], by simp only [PyData.canLay0, h2], by simp only [PyData.depth]; omega⟩
theorem Pw.shaped {k : Nat} {d : PyData} (h : Pw k d) (hk : k ≤ 64) : SeqAt.shaped d = true := by
  unfold SeqAt.shaped
  rw [h.lay, Bool.true_and]
  have := h.dep
  exact decide_eq_true (by omega)
theorem pd_int {i : Int} (h : i.natAbs < 1000000) : Pd 0 0 (.int i) := by
  refine ⟨pw_int i, ?_, ?_, Nat.le_refl _⟩
  · simp only [PyData.showable, decide_eq_true_eq]
    by_cases e : i.natAbs = 0
    · rw [e]; decide
    · rw [Nat.log2_lt e]
      exact Nat.lt_of_lt_of_le h (Nat.le_trans (show 1000000 ≤ 2 ^ 20 by decide) (Nat.pow_le_pow_right (by decide) (by decide)))
  · simp only [PyData.leavesShort, decide_eq_true_eq]
    exact PyData.shown_int_le (Nat.lt_of_lt_of_le h (by decide))
theorem pd_all {k b : Nat} : ∀ {ds : List PyData}, (∀ d ∈ ds, Pd k b d) → PyData.showableAll ds = true ∧ PyData.leavesShortAll 13 ds = true ∧ PyData.bulkAll ds ≤ ds.length * (b + 1)
  | [], _ => ⟨rfl, rfl, Nat.zero_le _⟩
  | d :: ds, h => by
    obtain ⟨h1, h2, h3⟩ := pd_all (ds := ds) fun e he => h e (List.mem_cons_of_mem _ he)
    have hd := h d List.mem_cons_self
    refine ⟨by simp only [PyData.showableAll, hd.sho, h1, Bool.and_self], by simp only [PyData.leavesShortAll, hd.lea, h2, Bool.and_self], ?_⟩
    have := hd.blk
    simp only [PyData.bulkAll, List.length_cons, Nat.add_mul]
    omega
theorem pd_tup {k b n c : Nat} {ds : List PyData} (h : ∀ d ∈ ds, Pd k b d) (hn : ds.length ≤ n) (hc : n * (b + 1) ≤ c) : Pd (k + 1) c (.tuple ds) := by
  obtain ⟨h1, h2, h3⟩ := pd_all h
  exact ⟨pw_tup fun d hd => (h d hd).w, by simp only [PyData.showable, h1], by simp only [PyData.leavesShort, h2], by simp only [PyData.bulk]; exact Nat.le_trans h3 (Nat.le_trans (Nat.mul_le_mul_right _ hn) hc)⟩
theorem pd_lst {k b n c : Nat} {ds : List PyData} (h : ∀ d ∈ ds, Pd k b d) (hn : ds.length ≤ n) (hc : n * (b + 1) ≤ c) : Pd (k + 1) c (.list ds) := by
  obtain ⟨h1, h2, h3⟩ := pd_all h
  exact ⟨pw_lst fun d hd => (h d hd).w, by simp only [PyData.showable, h1], by simp only [PyData.leavesShort, h2], by simp only [PyData.bulk]; exact Nat.le_trans h3 (Nat.le_trans (Nat.mul_le_mul_right _ hn) hc)⟩
theorem Pd.len {k b : Nat} {d : PyData} (h : Pd k b d) (hb : b ≤ 1000000) : d.shown.length ≤ sizeLine := PyData.shown_fits_bulk (by decide) (by decide) h.lea (Nat.le_trans (Nat.le_trans h.blk hb) (by decide))
theorem mem2 {α : Type} {p : α → Prop} {a b : α} (ha : p a) (hb : p b) : ∀ x ∈ [a, b], p x := fun x hx => by
  rcases List.mem_cons.mp hx with rfl | hx
  · exact ha
  · rw [List.mem_singleton.mp hx]; exact hb
theorem mem3 {α : Type} {p : α → Prop} {a b c : α} (ha : p a) (hb : p b) (hc : p c) : ∀ x ∈ [a, b, c], p x := fun x hx => by
  rcases List.mem_cons.mp hx with rfl | hx
  · exact ha
  · exact mem2 hb hc x hx
theorem mem_map {α β : Type} {p : β → Prop} {f : α → β} {l : List α} (h : ∀ a ∈ l, p (f a)) : ∀ x ∈ l.map f, p x := fun x hx => by
  obtain ⟨a, ha, rfl⟩ := List.mem_map.mp hx
  exact h a ha
theorem pw_fr (q : Rat) : Pw 1 (fr q) := pw_tup (mem2 (pw_int _) (pw_int _))
theorem pd_fr {q : Rat} (h : Pr 1 q) : Pd 1 2 (fr q) := by
  obtain ⟨z, hz⟩ := h.dn
  have h1 := den_le (Mk_pos 1) hz
  have h2 := h.num_le
  have e : Mk 1 = 720720 := by unfold Mk; decide
  rw [e] at h1
  exact pd_tup (b := 0) (mem2 (pd_int (by omega)) (pd_int (by omega))) (Nat.le_refl 2) (by decide)
theorem pd_I {x : Int × Rat} (h : Pr 1 x.2) (hv : x.1.natAbs < 1000000) : Pd 2 6 (encI x) := pd_tup (k := 1) (b := 2) (mem2 ((pd_int hv).up (by decide) (by decide)) (pd_fr h)) (Nat.le_refl 2) (by decide)
theorem pd_S {s : Spread} (h : ∀ x ∈ s, Pr 1 x.2 ∧ x.1.natAbs < 1000000) (hl : s.length ≤ 4) : Pd 3 28 (encS s) := pd_lst (k := 2) (b := 6) (n := 4) (mem_map fun x hx => pd_I (h x hx).1 (h x hx).2) (by rw [List.length_map]; exact hl) (by decide)
theorem pd_W {n : Nat} {w : Wth} (h : WthOk n w) (hn : n ≤ 4) : Pd 5 264 (encW w) := by
  have h1 := h.p0
  have h2 := h.p1
  refine pd_tup (k := 4) (b := 87) (n := 3) (mem3 ((pd_int (by omega)).up (by decide) (by decide)) (pd_lst (k := 3) (b := 28) (n := 3) (mem_map fun s hs => pd_S (fun x hx => ?_) ?_) (by rw [List.length_map]; exact h.len) (by decide)) ((pd_S (fun x hx => ?_) h.turns.len).up (by decide) (by decide))) (Nat.le_of_ble_eq_true rfl) (by decide)
  · have L := h.lines s hs
    have := L.val x hx
    exact ⟨(L.sp.pr x hx).1, by omega⟩
  · have := (h.lines s hs).len; omega
  · have := h.turns.val x hx
    exact ⟨(h.turns.sp.pr x hx).1, by omega⟩
theorem pd_L {l : Lay} (h : LayOk l) : Pd 2 18 (encL l) := by
  cases l with
  | limit n => exact pd_tup (k := 1) (b := 5) (n := 2) (mem2 ⟨⟨rfl, by decide +kernel, by decide⟩, rfl, by decide +kernel, by decide +kernel⟩ ((pd_int (by have := h.1; have := h.2; omega)).up (by decide) (by decide))) (Nat.le_of_ble_eq_true rfl) (by decide)
  | share q => exact pd_tup (k := 1) (b := 5) (n := 2) (mem2 ⟨⟨rfl, by decide +kernel, by decide⟩, rfl, by decide +kernel, by decide +kernel⟩ ((pd_fr h).up (by decide) (by decide))) (Nat.le_of_ble_eq_true rfl) (by decide)
  | band a b =>
    obtain ⟨h1, h2, h3⟩ := h
    exact pd_tup (k := 1) (b := 5) (n := 3) (mem3 ⟨⟨rfl, by decide +kernel, by decide⟩, rfl, by decide +kernel, by decide +kernel⟩ ((pd_int (by omega)).up (by decide) (by decide)) ((pd_int (by omega)).up (by decide) (by decide))) (Nat.le_of_ble_eq_true rfl) (by decide)
theorem pd_T {t : Trt} (h : TrtOk t) : Pd 4 154 (encT t) := by
  have h1 := h.p0
  have h2 := h.p1
  exact pd_tup (k := 3) (b := 76) (n := 2) (mem2 ((pd_int (by omega)).up (by decide) (by decide)) (pd_lst (k := 2) (b := 18) (n := 4) (mem_map fun l hl => pd_L (h.lay l hl)) (by rw [List.length_map]; exact h.len) (by decide))) (Nat.le_of_ble_eq_true rfl) (by decide)
theorem pd_H {h : Hse} (hh : HseOk h) : Pd 7 2122 (encH h) :=
  pd_tup (k := 6) (b := 1060) (n := 2) (mem2 (pd_lst (k := 5) (b := 264) (n := 4) (mem_map fun w hw => pd_W (hh.ws w hw) hh.w1) (by rw [List.length_map]; exact hh.w1) (by decide))
    ((pd_lst (k := 4) (b := 154) (n := 4) (mem_map fun t ht => pd_T (hh.ts t ht)) (by rw [List.length_map]; exact hh.t1) (c := 620) (by decide)).up (by decide) (by decide))) (Nat.le_of_ble_eq_true rfl) (by decide)
theorem pd_P {h : Hse} (hh : HseOk h) {pl : Plan} (hp : PlanOk h pl) (hl : ∀ row ∈ pl, row.length ≤ 24) : Pd 2 100 (encP pl) := by
  refine pd_lst (k := 1) (b := 24) (n := 4) (mem_map fun row hr => pd_lst (k := 0) (b := 0) (n := 24) (mem_map fun t ht => pd_int ?_) (by rw [List.length_map]; exact hl row hr) (by decide)) (by rw [List.length_map, hp.len]; exact hh.w1) (by decide)
  have h1 := hp.lt row hr t ht
  have h2 := hh.t1
  show t < 1000000
  omega
theorem pw_F (g : Fw) : Pw 4 (encF g) := pw_tup (k := 3) (mem2 ((pw_fr _).up (by decide)) (pw_lst (k := 2) (mem_map fun z _ => pw_tup (k := 1) (mem3 ((pw_int _).up (by decide)) ((pw_int _).up (by decide)) (pw_fr _)))))
mutual
theorem eqv_self : ∀ d : PyData, d.hasDict = false → PyData.eqv d d = true
  | .none, _ => by simp [PyData.eqv]
  | .bool b, _ => by simp [PyData.eqv]
  | .int i, _ => by simp [PyData.eqv]
  | .str x, _ => by simp [PyData.eqv]
  | .list ds, h => by
    simp only [PyData.hasDict] at h
    simp only [PyData.eqv]
    exact eqvAll_self ds h
  | .tuple ds, h => by
    simp only [PyData.hasDict] at h
    simp only [PyData.eqv]
    exact eqvAll_self ds h
  | .dict _, h => by simp [PyData.hasDict] at h
theorem eqvAll_self : ∀ ds : List PyData, PyData.hasDictAll ds = false → PyData.eqvAll ds ds = true
  | [], _ => by simp [PyData.eqvAll]
  | d :: ds, h => by
    simp only [PyData.hasDictAll, Bool.or_eq_false_iff] at h
    simp only [PyData.eqvAll, eqv_self d h.1, eqvAll_self ds h.2, Bool.and_self]
end
end LC

namespace LC
open PySem PySem.Spec PyProof.Rows L2 DL
local macro_rules | `(tactic| walk_at "WK") => `(tactic| repeat (first | exact Weak.nil | refine Weak.same ?_ | refine Weak.drop ?_))

section
variable {P : Program} {w : World} {K : PySem.W.Frag} {mg : Str → Option Value} {base : Heap}
/-- the plan's and outlook's part -/
theorem esF (g : Fw) : encF g = .tuple [fr g.1, .list (((srt (g.2.map (·.1))).map fun z => (z, fr ((look g.2 z).getD 0))).map triD)] := by
  unfold encF
  rw [List.map_map]
  rfl
theorem esS (g : Fw) : encF g = .tuple [fr g.1, .list ((sr g.2).map fun x => .tuple [.int x.1.1, .int x.1.2, fr x.2])] := by
  unfold encF sr
  rw [List.map_map]
  rfl
theorem law_body (T : Tx K mg) {cdv : Value} {s : Shared} {H : Hp} {E : XK} {f : Addr} {ns : List Int} (hr : Room 13 (callerA.deeper (envOfC "law" (defScope s_law) s.heap.objs.size f cdv))) :
    GB (cxOf CX0 P w K mg base n_law "law" (defScope s_law) f cdv callerA [] s H E).nox ⟨H, [], [], .dat (.list (ns.map PyData.int)) :: List.replicate (n_law.length - 1) SD.any⟩ (defBody s_law) { nx := fun _ _ => False, rt := fun v _ => v = .bl true } := by
  have gd : (callerA.deeper (envOfC "law" (defScope s_law) s.heap.objs.size f cdv)).guards = some [] := rfl
  have cell := (df_law_cell (P := P) (w := w) (base := base) T).up (by decide : 1 ≤ 13)
  refine gb_setG 1 ((dg_law_house T).up (by decide : 3 ≤ 13)) hr (va_cons (ve_call cell hr (va_cons (ve_var 0 rfl) (va_cons ve_int va_nil)) ⟨ns, 0, rfl, rfl⟩) (va_cons (ve_call cell hr (va_cons (ve_var 0 rfl) (va_cons ve_int va_nil)) ⟨ns, 1, rfl, rfl⟩) va_nil)) ⟨_, _, rfl⟩ (fun d hd => ?_) sc_law.nd
  obtain ⟨h, hh, rfl⟩ := hd
  have hw0 := hh.w0
  have hw1 := hh.w1
  have ht0 := hh.t0
  have ht1 := hh.t1
  refine gb_ifNo (vt_eq (vt_notN (ve_call ((df_check_house T).up (by decide : 7 ≤ 13)) hr (va_cons (ve_var 1 rfl) va_nil) ⟨h, rfl, hh, rfl⟩)) rfl) ?_
  refine gb_setG 2 ((dg_law_digits T).up (by decide : 1 ≤ 13)) hr (va_cons (ve_call cell hr (va_cons (ve_var 0 rfl) (va_cons ve_int va_nil)) ⟨ns, 2, rfl, rfl⟩) (va_cons ve_int (va_cons ve_int va_nil))) ⟨cellOf ns 2, 5040, 20, rfl, by decide, by decide, by decide⟩ (fun d hd => ?_) sc_law.nd
  obtain ⟨dr, hdr, rfl⟩ := hd (cellOf ns 2) 5040 20 rfl
  obtain ⟨d0, l0, a0⟩ := dig_at hdr (show 0 < 20 by decide)
  obtain ⟨d1, l1, a1⟩ := dig_at hdr (show 1 < 20 by decide)
  obtain ⟨d2, l2, a2⟩ := dig_at hdr (show 2 < 20 by decide)
  obtain ⟨d19, l19, a19⟩ := dig_at hdr (show 19 < 20 by decide)
  refine gb_set 3 (ve_eq (ve_mod (ve_ixL (ve_var 2 rfl) ve_int a0) ve_int (by decide)) (d := .int ((d0 % 5 : Nat) : Int)) rfl) ?_ sc_law.nd
  refine gb_set 4 ve_int ?_ sc_law.nd
  have lenW : ∀ {X : Cx} {S : SS} {e : Expr} {j1 : Nat} {p1 p2 p3 pos : Pos}, X.mg "len" = none → VE X S e (encH h) → Gl X "len" → (starEach [.Subscript e (.Constant (.int 0) j1 p1) p2] X.env = [(false, eval (.Subscript e (.Constant (.int 0) j1 p1) p2) X.env)]) → VE X S (.Call (.Name "len" p3) [.Subscript e (.Constant (.int 0) j1 p1) p2] [] pos) (.int (h.ws.length : Int)) :=
    fun hm he hg hst => ve_eq (ve_len hm (ve_ixT he ve_int (d := .list (h.ws.map encW)) rfl) hg hst) (by rw [List.length_map])
  have lenT : ∀ {X : Cx} {S : SS} {e : Expr} {j1 : Nat} {p1 p2 p3 pos : Pos}, X.mg "len" = none → VE X S e (encH h) → Gl X "len" → (starEach [.Subscript e (.Constant (.int 1) j1 p1) p2] X.env = [(false, eval (.Subscript e (.Constant (.int 1) j1 p1) p2) X.env)]) → VE X S (.Call (.Name "len" p3) [.Subscript e (.Constant (.int 1) j1 p1) p2] [] pos) (.int (h.ts.length : Int)) :=
    fun hm he hg hst => ve_eq (ve_len hm (ve_ixT he ve_int (d := .list (h.ts.map encT)) rfl) hg hst) (by rw [List.length_map])
  refine gb_range (h.ws.length : Int) 5 (fun _ (g : Int) => 0 ≤ g ∧ g ≤ 108) (fun _ => []) (fun g => .dat (.list (ns.map PyData.int)) :: .dat (encH h) :: .dat (encN dr) :: .dat (.int ((d0 % 5 : Nat) : Int)) :: .dat (.int g) :: List.replicate 19 SD.any) T.b_range (by omega) (lenW T.b_len (ve_var 1 rfl) rfl rfl) (tg_nm sc_law.nd) ⟨1, ⟨by decide, by decide⟩, rfl, by walk_at "WK"⟩ (fun k g hk hg => ?_) (fun g hg => ?_) rfl
  · have hk' : k < h.ws.length := by omega
    have so : StOk h (0, (k : Int)) := ⟨Int.le_refl _, by show (0 : Int) ≤ (k : Int); omega, by show (k : Int) < _; omega⟩
    have L := (lyr_ok hh so (t := 0) (by omega)).len
    refine gb_set 4 (ve_max2 rfl T.b_max (ve_var 4 rfl) (ve_len T.b_len (ve_call ((df_law_year T).up (by decide : 4 ≤ 13)) hr (va_cons (ve_var 1 rfl) (va_cons ve_int (va_cons (ve_var 5 rfl) (va_cons ve_int va_nil)))) ⟨h, (0, (k : Int)), 0, rfl, hh, so, by omega, rfl⟩))) ?_ sc_law.nd
    refine gb_nil fun σ H' s' => ⟨_, ⟨?_, ?_⟩, s'.weak (by walk_at "WK")⟩
    · rw [List.length_map]
      split <;> omega
    · rw [List.length_map]
      split <;> omega
  obtain ⟨hg0, hg1⟩ := hg
  have hd05 : d0 % 5 ≤ 4 := by omega
  refine gb_while (fun n (y : Nat) => y = n ∧ y ≤ 4) (fun _ => []) (fun y => .dat (.list (ns.map PyData.int)) :: .dat (encH h) :: .dat (encN dr) :: .dat (.int (y : Int)) :: .dat (.int g) :: List.replicate 19 SD.any) (d0 % 5) ⟨d0 % 5, ⟨rfl, hd05⟩, rfl, by walk_at "WK"⟩ (fun n y hy => ?_)
  obtain ⟨rfl, hy4⟩ := hy
  have g2 : 0 ≤ g * g ∧ g * g ≤ 108 * 108 := ⟨Int.mul_nonneg hg0 hg0, Int.mul_le_mul hg1 hg1 hg0 (by decide)⟩
  have g3 : 0 ≤ g * g * g ∧ g * g * g ≤ 108 * 108 * 108 := ⟨Int.mul_nonneg g2.1 hg0, Int.mul_le_mul g2.2 hg1 hg0 (by decide)⟩
  have g4 : 0 ≤ g * g * g * g ∧ g * g * g * g ≤ 108 * 108 * 108 * 108 := ⟨Int.mul_nonneg g3.1 hg0, Int.mul_le_mul g3.2 hg1 hg0 (by decide)⟩
  obtain ⟨pw, _, epw⟩ := pick_at [1, g, g * g, g * g * g, g * g * g * g] (n := 5) rfl (v := (y : Int)) (by omega) (by omega)
  have c1 : CMulW g g := cmw (by omega) (by omega)
  have c2 : CMulW (g * g) g := cmw (by omega) (by omega)
  have c3 : CMulW (g * g * g) g := cmw (by omega) (by omega)
  refine ⟨_, vw_pt (vw_and (vt_gt (ve_var 3 rfl) ve_int) fun _ => vw_and1 (vt_gt (ve_ixL (ve_lst (va_cons ve_int (va_cons (ve_var 4 rfl) (va_cons (ve_mul (ve_var 4 rfl) (ve_var 4 rfl) c1) (va_cons (ve_mul (ve_mul (ve_var 4 rfl) (ve_var 4 rfl) c1) (ve_var 4 rfl) c2) (va_cons (ve_mul (ve_mul (ve_mul (ve_var 4 rfl) (ve_var 4 rfl) c1) (ve_var 4 rfl) c2) (ve_var 4 rfl) c3) va_nil)))))) (ve_var 3 rfl) epw) ve_int)), fun z => ?_, fun _ => ?_⟩
  · have z1 : 1 < y := by
      have z := (Bool.and_eq_true _ _).mp z
      have := of_decide_eq_true z.1
      omega
    refine gb_set 3 (ve_eq (ve_sub (ve_var 3 rfl) ve_int) (d := .int ((y - 1 : Nat) : Int)) (by congr 1; omega)) ?_ sc_law.nd
    exact gb_nil fun σ H' s' => ⟨y - 1, by omega, y - 1, ⟨rfl, by omega⟩, s'.weak (by walk_at "WK")⟩
  -- the state
  obtain ⟨st, hst⟩ : ∃ st : Stt, st = ((d1 : Int) % 6, (d2 : Int) % (h.ws.length : Int)) := ⟨_, rfl⟩
  have hs : StOk h st := by
    rw [hst]
    exact ⟨by show 0 ≤ (d1 : Int) % 6; omega, Int.emod_nonneg _ (by omega), Int.emod_lt_of_pos _ (by omega)⟩
  have hs5 : st.1 ≤ 5 := by rw [hst]; show (d1 : Int) % 6 ≤ 5; omega
  refine gb_set 6 (ve_eq (ve_tupK (va_cons (ve_mod (ve_ixL (ve_var 2 rfl) ve_int a1) ve_int (by decide)) (va_cons (ve_mod (ve_ixL (ve_var 2 rfl) ve_int a2) (lenW T.b_len (ve_var 1 rfl) rfl rfl) (by omega)) va_nil))) (d := stD st) (by rw [hst])) ?_ sc_law.nd
  clear hst
  have pH := pd_H hh
  have un : (callerA.deeper (envOfC "law" (defScope s_law) s.heap.objs.size f cdv)).units + 64 < cLine := hr.units
  have rH : ∀ {S : SS} {e : Expr} {p pos : Pos}, VE (cxOf CX0 P w K mg base n_law "law" (defScope s_law) f cdv callerA [] s H E).nox S e (encH h) → starEach [e] (cxOf CX0 P w K mg base n_law "law" (defScope s_law) f cdv callerA [] s H E).nox.env = [(false, eval e (cxOf CX0 P w K mg base n_law "law" (defScope s_law) f cdv callerA [] s H E).nox.env)] →
      VE (cxOf CX0 P w K mg base n_law "law" (defScope s_law) f cdv callerA [] s H E).nox S (.Call (.Name "repr" p) [e] [] pos) (.str (encH h).shown) := fun he hst => ve_repr gd T.b_repr (.inr rfl) (by have := pH.w.dep; exact Nat.lt_of_le_of_lt (Nat.add_le_add_left (by omega : (encH h).depth + 1 ≤ 64) _) un) pH.sho pH.w.nod (pH.len (by decide)) he rfl hst
  refine gb_set 7 (rH (ve_var 1 rfl) rfl) ?_ sc_law.nd
  refine gb_set 8 (ve_call ((df_least_ruin T).up (by decide : 10 ≤ 13)) hr (va_cons (ve_var 1 rfl) (va_cons (ve_var 6 rfl) (va_cons (ve_var 3 rfl) va_nil))) ⟨h, st, y, rfl, hh, hs, by omega, by omega, rfl⟩) ?_ sc_law.nd
  have uP := u_pr hh (o := none) trivial y hs
  have uS := uP.sm (by omega : 4 * y ≤ 45)
  obtain ⟨wP, wU, _⟩ := wy_ok hh dr y 0 hs
  have wS := wP.sm (by omega : 4 * y ≤ 45)
  have p3 : (3 : Int) ^ y ≤ 81 := by
    have : y = 0 ∨ y = 1 ∨ y = 2 ∨ y = 3 ∨ y = 4 := by omega
    rcases this with e | e | e | e | e <;> subst e <;> decide
  have p3' : (0 + 55) * (3 : Int) ^ y ≤ 1000000 := by omega
  refine gb_ifNo (vt_eq (vw_pt (vw_or (vt_val (ve_call ((df_law_less T).up (by decide : 1 ≤ 13)) hr (va_cons (ve_call ((df_law_way T 4).up (by decide : 5 + 4 ≤ 13)) hr (va_cons (ve_var 1 rfl) (va_cons (ve_var 6 rfl) (va_cons (ve_var 3 rfl) (va_cons (ve_var 2 rfl) (va_cons ve_int va_nil))))) ⟨h, st, y, dr, 0, rfl, hh, hs, hy4, by omega, by omega, by rw [hdr.len]; decide, by decide, p3', rfl⟩) (va_cons (ve_var 8 rfl) va_nil)) ⟨_, _, rfl, wS, uS, rfl⟩)) fun _ => vw_or1 (vt_neS (rH (ve_var 1 rfl) rfl) (ve_var 7 rfl)))) ?_) ?_
  · rw [decide_eq_false (fun z => absurd wU (Rat.not_le.mpr z)), decide_eq_true rfl]; rfl
  refine gb_ifNo (vt_eq (vw_pt (vw_and (vt_lt (ve_var 3 rfl) ve_int) fun z => vw_and1 (vt_neD un (ve_call ((df_law_best T 2).up (by decide : 11 + 2 ≤ 13)) hr (va_cons (ve_var 1 rfl) (va_cons (ve_var 6 rfl) (va_cons (ve_var 3 rfl) va_nil))) ⟨h, st, y, rfl, hh, hs, by have := of_decide_eq_true z; omega, by omega, by have := of_decide_eq_true z; omega, rfl⟩) (ve_var 8 rfl) rfl rfl rfl rfl))) ?_) ?_
  · rw [eqv_fr, decide_eq_true rfl, Bool.not_true, Bool.and_false]
  -- the layers
  obtain ⟨yl, hyl⟩ : ∃ yl : Nat, yl = 2 + d19 % 9 := ⟨_, rfl⟩
  refine gb_setG 9 ((dg_law_reached T h st).up (by decide : 5 ≤ 13)) hr (va_cons (ve_var 1 rfl) (va_cons (ve_var 6 rfl) (va_cons (ve_eq (ve_add ve_int (ve_mod (ve_ixL (ve_var 2 rfl) ve_int a19) ve_int (by decide))) (d := .int (yl : Int)) (by rw [hyl]; rfl)) (va_cons ve_int va_nil)))) ⟨yl, 60, rfl, hh, hs, by omega, by omega, by omega⟩ (fun d hd => ?_) sc_law.nd
  obtain ⟨ls, R, hl1, hl2, rfl⟩ := hd
  obtain ⟨m, hm⟩ : ∃ m, ls.length = m + 1 := ⟨ls.length - 1, by omega⟩
  have lenL : (ls.map fun l => PyData.list (l.map stD)).length = m + 1 := by rw [List.length_map, hm]
  have hm10 : m + 1 ≤ 10 := by omega
  have leL : ∀ {X : Cx} {S : SS} {e : Expr} {p pos : Pos}, X.mg "len" = none → VE X S e (encRe ls) → Gl X "len" → starEach [e] X.env = [(false, eval e X.env)] → VE X S (.Call (.Name "len" p) [e] [] pos) (.int ((m + 1 : Nat) : Int)) := fun hm he hg hst => ve_eq (ve_len hm he hg hst) (by rw [lenL])
  refine gb_unpack (.two 10 11) (tg_two rfl sc_law.nd) (ve_call ((df_law_least T).up (by decide : 5 ≤ 13)) hr (va_cons (ve_var 1 rfl) (va_cons (ve_var 9 rfl) va_nil)) ⟨h, st, ls, m, rfl, hh, hs, by omega, R, hm, hm10, rfl⟩) rfl ?_
  refine gb_set 12 (ve_call ((df_best_treaty T).up (by decide : 10 ≤ 13)) hr (va_cons (ve_var 1 rfl) (va_cons (ve_var 6 rfl) (va_cons (leL T.b_len (ve_var 9 rfl) rfl rfl) va_nil))) ⟨h, st, m, rfl, hh, hs, by omega, hm10, rfl⟩) ?_ sc_law.nd
  refine gb_ifNo (vt_eq (vw_pt (vw_or (vt_neD un (ve_call ((df_least_ruin T).up (by decide : 10 ≤ 13)) hr (va_cons (ve_var 1 rfl) (va_cons (ve_var 6 rfl) (va_cons (leL T.b_len (ve_var 9 rfl) rfl rfl) va_nil))) ⟨h, st, m + 1, rfl, hh, hs, by omega, hm10, rfl⟩) (ve_var 10 rfl) rfl rfl rfl rfl) fun _ => vw_or (vt_neI (ve_var 12 rfl) (ve_var 11 rfl)) fun _ => vw_or1 (vt_val (ve_isi (T := "bool") (U := "int") (k := false) T.b_isinstance T.b_bool (by decide +kernel) (ve_var 12 rfl) is_tyI (by decide +kernel))))) ?_) ?_
  · rw [eqv_fr, decide_eq_true rfl, decide_eq_true rfl]; rfl
  -- the plan
  refine gb_newL 13 (fun q => ?_) sc_law.nd
  refine gb_range (h.ws.length : Int) 5 (fun k (pl : Plan) => pl.length = k ∧ (∀ row ∈ pl, row ≠ [] ∧ row.length ≤ 24) ∧ ∀ row ∈ pl, ∀ t ∈ row, t < h.ts.length) (fun pl => [(q, .ml (pl.map fun row => .list (row.map fun (t : Nat) => PyData.int (t : Int))))])
    (fun _ => [.dat (.list (ns.map PyData.int)), .dat (encH h), .dat (encN dr), .dat (.int (y : Int)), .dat (.int g), .any, .dat (stD st), .dat (.str (encH h).shown), .dat (fr (U h none y st)), .dat (encRe ls), .any, .any, .any, .val (.ref q), .any, .any, .any, .any, .any, .any, .any, .any, .any, .any]) T.b_range (by omega) (lenW T.b_len (ve_var 1 rfl) rfl rfl) (tg_nm sc_law.nd) ⟨[], ⟨rfl, fun row hr => (by cases hr), fun row hr => (by cases hr)⟩, rfl, by walk_at "WK"⟩ (fun k pl hk hpl => ?_) (fun pl hpl => ?_) rfl
  · obtain ⟨hpl1, hpl2, hpl3⟩ := hpl
    have hk4 : k < 4 := by omega
    obtain ⟨dk, lk, ak⟩ := dig_at hdr (show 3 + k < 20 by omega)
    have hrow : ∀ j : Nat, ∃ v : Nat, atI (dr.map fun (n : Nat) => PyData.int (n : Int)) (3 + (4 * (k : Int) + (j : Int)) % 17) = some (.int (v : Int)) := fun j => by
      obtain ⟨v, _, e⟩ := dig_at hdr (show 3 + (4 * k + j) % 17 < 20 by omega)
      exact ⟨v, by rw [← e]; congr 1⟩
    let rv : Nat → Nat := fun j => (hrow j).choose % h.ts.length
    refine gb_app 13 0 rfl rfl (ve_lcR 14 (1 + dk % 24) (fun _ => true) (fun j => .int (rv j : Nat)) T.b_range (ve_eq (ve_add ve_int (ve_mod (ve_ixL (ve_var 2 rfl) (ve_add ve_int (ve_var 5 rfl)) ak) ve_int (by decide))) (d := .int ((1 + dk % 24 : Nat) : Int)) rfl) (blkOk_by (own := [("_law_k", 14)]) rfl) (fun _ _ _ _ _ => tg_nm sc_law.nd) ?_ (by omega) rfl sc_law.nd (by decide)) (by rw [List.length_map]; omega) ?_
    · intro Hb Da acc j hst hj
      refine ⟨fun _ _ _ _ _ => vts_nil, fun _ _ _ _ _ _ => ve_eq (ve_mod (ve_ixL (ve_var 2 rfl) (ve_add ve_int (ve_mod (ve_add (ve_mul ve_int (ve_var 5 rfl) (cmw (by decide) (by omega))) (ve_var 14 rfl)) ve_int (by decide))) (hrow j).choose_spec) (lenT T.b_len (ve_var 1 rfl) rfl rfl) (by omega)) rfl⟩
    · rw [List.filter_eq_self.mpr (fun _ _ => rfl)]
      refine gb_nil fun σ H' s' => ⟨pl ++ [(List.range (1 + dk % 24)).map rv], ⟨by rw [List.length_append, hpl1]; rfl, fun row hrw => ?_, fun row hrw => ?_⟩, ?_⟩
      · rcases List.mem_append.mp hrw with hrw | hrw
        · exact hpl2 row hrw
        · rw [List.mem_singleton.mp hrw]
          refine ⟨fun e => ?_, by rw [List.length_map, List.length_range]; omega⟩
          have := congrArg List.length e
          rw [List.length_map, List.length_range] at this
          have e0 : ([] : List Nat).length = 0 := rfl
          omega
      · rcases List.mem_append.mp hrw with hrw | hrw
        · exact hpl3 row hrw
        · rw [List.mem_singleton.mp hrw]
          intro t ht
          obtain ⟨j, _, rfl⟩ := List.mem_map.mp ht
          exact Nat.mod_lt _ (by omega)
      · refine sa_eq s' ?_ (by walk_at "WK")
        show [(q, MO.ml _)] = [(q, MO.ml _)]
        rw [List.map_append]
        show [(q, MO.ml (_ ++ [PyData.list ((List.range (1 + dk % 24)).map fun j => .int (rv j : Nat))]))] = [(q, MO.ml (_ ++ [PyData.list (((List.range (1 + dk % 24)).map rv).map fun (t : Nat) => PyData.int (t : Int))]))]
        rw [List.map_map]
        rfl
  obtain ⟨hpl1, hpl2, hpl3⟩ := hpl
  have hP : PlanOk h pl := ⟨by rw [hpl1, Int.toNat_natCast], fun row hr => (hpl2 row hr).1, hpl3⟩
  have pP := pd_P hh hP fun row hr => (hpl2 row hr).2
  have pHP : Pd 8 5000 (.list [encH h, encP pl]) := pd_lst (k := 7) (b := 2122) (n := 2) (mem2 pH (pP.up (by decide) (by decide))) (Nat.le_of_ble_eq_true rfl) (by decide)
  refine gb_frz 13 0 rfl rfl rfl ?_
  have rHP : ∀ {S : SS} {e : Expr} {p pos : Pos}, VE (cxOf CX0 P w K mg base n_law "law" (defScope s_law) f cdv callerA [] s H E).nox S e (.list [encH h, encP pl]) → starEach [e] (cxOf CX0 P w K mg base n_law "law" (defScope s_law) f cdv callerA [] s H E).nox.env = [(false, eval e (cxOf CX0 P w K mg base n_law "law" (defScope s_law) f cdv callerA [] s H E).nox.env)] →
      VE (cxOf CX0 P w K mg base n_law "law" (defScope s_law) f cdv callerA [] s H E).nox S (.Call (.Name "repr" p) [e] [] pos) (.str (PyData.list [encH h, encP pl]).shown) := fun he hst => ve_repr gd T.b_repr (.inl rfl) (by have := pHP.w.dep; exact Nat.lt_of_le_of_lt (Nat.add_le_add_left (by omega : (PyData.list [encH h, encP pl]).depth + 1 ≤ 64) _) un) pHP.sho pHP.w.nod (pHP.len (by decide)) he rfl hst
  refine gb_set 15 (rHP (ve_lst (va_cons (ve_var 1 rfl) (va_cons (ve_var 13 rfl) va_nil))) rfl) ?_ sc_law.nd
  refine gb_set 16 (ve_call ((df_plan_ruin T).up (by decide : 10 ≤ 13)) hr (va_cons (ve_var 1 rfl) (va_cons (ve_var 13 rfl) (va_cons (ve_var 6 rfl) (va_cons (ve_var 3 rfl) va_nil)))) ⟨h, pl, st, y, rfl, hh, hP, hs, by omega, by omega, rfl⟩) ?_ sc_law.nd
  have uQ := (u_pr hh (o := some pl) hP y hs).sm (by omega : 4 * y ≤ 45)
  refine gb_ifNo (vt_eq (vw_pt (vw_or (vt_neD un (ve_var 16 rfl) (ve_call ((df_law_planned T 4).up (by decide : 5 + 4 ≤ 13)) hr (va_cons (ve_var 1 rfl) (va_cons (ve_var 13 rfl) (va_cons (ve_var 6 rfl) (va_cons (ve_var 3 rfl) va_nil)))) ⟨h, pl, st, y, rfl, hh, hP, hs, hy4, by omega, rfl⟩) rfl rfl rfl rfl) fun _ => vw_or1 (vt_val (ve_call ((df_law_less T).up (by decide : 1 ≤ 13)) hr (va_cons (ve_var 16 rfl) (va_cons (ve_var 8 rfl) va_nil)) ⟨_, _, rfl, uQ, uS, rfl⟩)))) ?_) ?_
  · rw [eqv_fr, decide_eq_true rfl, decide_eq_false (Rat.not_lt.mpr (plan_ge hh hP y hs))]; rfl
  refine gb_set 17 (leL T.b_len (ve_var 9 rfl) rfl rfl) ?_ sc_law.nd
  refine gb_set 18 (ve_eq (ve_call ((df_law_forward T).up (by decide : 5 ≤ 13)) hr (va_cons (ve_var 1 rfl) (va_cons (ve_var 13 rfl) (va_cons (ve_var 6 rfl) (va_cons (ve_var 17 rfl) va_nil)))) ⟨h, pl, st, m + 1, rfl, hh, hP, hs, by omega, hm10, rfl⟩) (out_enc hh hP hs (m + 1))) ?_ sc_law.nd
  have pF := pw_F (outP h pl st (m + 1))
  refine gb_ifNo (vt_eq (vw_pt (vw_or (vt_neD un (ve_call ((df_outlook T).up (by decide : 10 ≤ 13)) hr (va_cons (ve_var 1 rfl) (va_cons (ve_var 13 rfl) (va_cons (ve_var 6 rfl) (va_cons (ve_var 17 rfl) va_nil)))) ⟨h, pl, st, m + 1, rfl, hh, hP, hs, by omega, hm10, rfl⟩) (ve_var 18 rfl) pF.nod pF.nod (pF.shaped (by decide)) (pF.shaped (by decide))) fun _ => vw_or1 (vt_neD un (ve_call ((df_plan_ruin T).up (by decide : 10 ≤ 13)) hr (va_cons (ve_var 1 rfl) (va_cons (ve_var 13 rfl) (va_cons (ve_var 6 rfl) (va_cons (ve_var 17 rfl) va_nil)))) ⟨h, pl, st, m + 1, rfl, hh, hP, hs, by omega, hm10, rfl⟩) (ve_ixT (ve_var 18 rfl) ve_int (d := fr (outP h pl st (m + 1)).1) rfl) rfl rfl rfl rfl))) ?_) ?_
  · rw [eqv_self _ pF.nod, eqv_fr, out_ruin hh hP hs, decide_eq_true rfl]; rfl
  -- what is left
  have r := outP_ok hh hP hs y
  have rs := r.sr
  have hru := out_ruin hh hP hs y
  have r20 : (outP h pl st y).2.length ≤ 1604 := (r.up (B' := ((400 : Nat) : Int)) (by omega)).len hh
  refine gb_unpack (.two 19 20) (tg_two rfl sc_law.nd) (ve_eq (ve_call ((df_outlook T).up (by decide : 10 ≤ 13)) hr (va_cons (ve_var 1 rfl) (va_cons (ve_var 13 rfl) (va_cons (ve_var 6 rfl) (va_cons (ve_var 3 rfl) va_nil)))) ⟨h, pl, st, y, rfl, hh, hP, hs, by omega, by omega, rfl⟩) (esF _)) rfl ?_
  refine gb_set 21 (ve_var 19 rfl) ?_ sc_law.nd
  have es2 : ((srt ((outP h pl st y).2.map (·.1))).map fun z => (z, fr ((look (outP h pl st y).2 z).getD 0))).map triD = (sr (outP h pl st y).2).map fun x => .tuple [.int x.1.1, .int x.1.2, fr x.2] := by
    unfold sr
    rw [List.map_map, List.map_map]
    rfl
  have sum1 : (outP h pl st y).1 + sumF (·.2) (sr (outP h pl st y).2) = 1 := rs.tot
  refine gb_fold (.three 22 5 23) (sr (outP h pl st y).2) (fun x => .tuple [.int x.1.1, .int x.1.2, fr x.2]) (fun v x => v + x.2) (outP h pl st y).1 (fun _ => [])
    (fun v => [.any, .dat (encH h), .any, .any, .any, .any, .any, .dat (.str (encH h).shown), .any, .any, .any, .any, .any, .dat (encP pl), .any, .dat (.str (PyData.list [encH h, encP pl]).shown), .dat (fr (U h (some pl) y st)), .any, .any, .dat (fr (outP h pl st y).1), .dat (.list (((srt ((outP h pl st y).2.map (·.1))).map fun z => (z, fr ((look (outP h pl st y).2 z).getD 0))).map triD)), .dat (fr v), .any, .any])
    (ve_eq (ve_var 20 rfl) (by rw [es2])) (tg_three rfl sc_law.nd) ⟨rfl, by walk_at "WK"⟩ (fun Hb hb j x hj => ⟨_, rfl, ?_⟩) ?_ rfl
  · have hx := take_mem hj
    have px := rs.tb x hx
    have ox := (rs.ok x hx).1
    have p1 := loop_pr rs.pr (f := fun x : Stt × Rat => x.2) (fun x hx => (rs.tb x hx).1) (by rw [sum1]; exact Rat.le_refl) j
    have p1 : Pr (4 * y) (((sr (outP h pl st y).2).take j).foldl (fun v x => v + x.2) (outP h pl st y).1) := p1
    generalize ((sr (outP h pl st y).2).take j).foldl (fun v x => v + x.2) (outP h pl st y).1 = v at p1
    have hn : ¬ x.2.num ≤ 0 := fun z => by
      have h3 : (0 : Int) ≤ x.2.num := Rat.num_nonneg.mpr px.1.pos
      have h4 : x.2.num = 0 := by omega
      rw [Rat.num_eq_zero] at h4
      have h5 := px.2
      rw [h4] at h5
      exact absurd h5 (by decide)
    have hr0 := ox.r
    refine gb_ifNo (vt_eq (vw_pt (vw_or (vt_lt (ve_var 22 rfl) ve_int) fun _ => vw_or1 (vt_le (ve_fr0 (ve_var 23 rfl)) ve_int))) ?_) ?_
    · rw [decide_eq_false (by omega), decide_eq_false hn]; rfl
    refine gb_set 21 (ve_call ((df_law_plus T).up (by decide : 2 ≤ 13)) hr (va_cons (ve_var 21 rfl) (va_cons (ve_var 23 rfl) va_nil)) ⟨v, x.2, rfl, p1.sm (by omega), px.1.sm (by omega), rfl⟩) ?_ sc_law.nd
    exact gb_fin rfl (by walk_at "WK")
  · have ev : (sr (outP h pl st y).2).foldl (fun v x => v + x.2) (outP h pl st y).1 = 1 := by
      rw [foldl_sum (f := fun x : Stt × Rat => x.2)]
      exact sum1
    rw [ev]
    have keys : ((srt ((outP h pl st y).2.map (·.1))).map fun z => (z, fr ((look (outP h pl st y).2 z).getD 0))).map (·.1) = srt ((outP h pl st y).2.map (·.1)) := by rw [List.map_map]; exact List.map_id _
    have pE : Pw 3 (.list (((srt ((outP h pl st y).2.map (·.1))).map fun z => (z, fr ((look (outP h pl st y).2 z).getD 0))).map triD)) := pw_lst (k := 2) (mem_map fun e he => by
      obtain ⟨z, _, rfl⟩ := List.mem_map.mp he
      exact pw_tup (k := 1) (mem3 ((pw_int _).up (by decide)) ((pw_int _).up (by decide)) (pw_fr _)))
    refine gb_ifNo (vt_eq (vw_pt (vw_or (vt_neS (rH (ve_var 1 rfl) rfl) (ve_var 7 rfl)) fun _ => vw_or1 (vt_neS (rHP (ve_lst (va_cons (ve_var 1 rfl) (va_cons (ve_var 13 rfl) va_nil))) rfl) (ve_var 15 rfl)))) ?_) ?_
    · rw [decide_eq_true rfl, decide_eq_true rfl]; rfl
    refine gb_ret (ve_eq (ve_and (ve_eqD un (ve_var 19 rfl) (ve_var 16 rfl) rfl rfl rfl rfl) fun _ => ve_and (ve_eqD un (ve_var 21 rfl) (ve_tup (va_cons ve_int (va_cons ve_int va_nil))) rfl rfl rfl rfl) fun _ => ve_one (ve_eqD un (ve_var 20 rfl) (ve_sortedTri T.b_sorted (by rw [keys]; exact srt_sorted _) (by rw [keys]; exact (srt_perm _).nodup_iff.mpr r.nd) (ve_var 20 rfl)) pE.nod pE.nod (pE.shaped (by decide)) (pE.shaped (by decide)))) (d := .bool true) ?_) fun v H' _ i => i_bl i
    have e2 : PyData.eqv (fr 1) (.tuple [.int 1, .int 1]) = true := by
      have := eqv_fr (p := 1) (q := 1)
      rw [decide_eq_true rfl] at this
      exact this
    rw [eqv_self _ pE.nod, e2, eqv_fr, hru, decide_eq_true rfl]
    rfl
end
end LC

namespace LC
open PySem PySem.Spec PyProof.Rows L2 DL

/-! ### what stands in the written part -/
def KFn (K : PySem.W.Frag) (x : Str) (st : Stmt) : Prop := ∃ (f : Addr) (oc : Value) (od : Option Addr) (kV doc pm : Value) (an : Option Addr) (cdv ct : Value) (osl : Array (Option Value)), PySem.W.nsIn K mainGlobals x = some (some (.ref f)) ∧
  K.lookup f = some ⟨oc, od, .func (PySem.W.fnOf x x (defArgs st) (defBody st) (defScope st) .none kV doc pm an cdv ct), osl⟩ ∧ PySem.W.codeIn K cdv x = true ∧ PySem.W.keepIn K (.ref f) = true
def KMt (K : PySem.W.Frag) (C : Addr) (m qual : Str) (st : Stmt) : Prop := ∃ (f : Addr) (oc : Value) (od : Option Addr) (kV doc pm : Value) (an : Option Addr) (cdv ct : Value) (osl : Array (Option Value)), PySem.W.findIn K (.ref C) m = some (some (.ref f)) ∧ PySem.W.isFn K (.ref f) = true ∧
  K.lookup f = some ⟨oc, od, .func (PySem.W.fnOf m qual (defArgs st) (defBody st) (defScope st) .none kV doc pm an cdv ct), osl⟩ ∧ PySem.W.codeIn K cdv qual = true ∧ PySem.W.keepIn K (.ref f) = true
def KPr (K : PySem.W.Frag) (x : Str) (i j : Int) : Prop := ∃ (a : Addr) (od : Option Addr) (t u : Tok) (n : Nat) (osl : Array (Option Value)), PySem.W.nsIn K mainGlobals x = some (some (.ref a)) ∧ K.lookup a = some ⟨.type "tuple", od, .seq #[.int i t, .int j u] n, osl⟩
def KIn (K : PySem.W.Frag) (x : Str) (i : Int) : Prop := ∃ t : Tok, PySem.W.nsIn K mainGlobals x = some (some (.int i t))
def KNo (K : PySem.W.Frag) (x : Str) : Prop := PySem.W.nsIn K mainGlobals x = some none
def KCl (K : PySem.W.Frag) (C : Addr) : Prop := PySem.W.nsIn K mainGlobals "Span" = some (some (.ref C)) ∧ PySem.W.plainGet K C Str.empty = true ∧ PySem.W.hasDictIn K C = true ∧ PySem.W.plainOver K C = true ∧ PySem.W.findIn K (.ref C) "__setattr__" = some (some (.builtin "object.__setattr__")) ∧ PySem.W.makesIn K C = true ∧ PySem.W.keepIn K (.ref C) = true
section
variable {K : PySem.W.Frag} {h : Heap} {mg : Str → Option Value} (X : K.In h) (G : h.Ns mainGlobals mg)
include X G
theorem KFn.gd {x : Str} {st : Stmt} (k : KFn K x st) : Gd K mg x st := by
  obtain ⟨f, oc, od, kV, doc, pm, an, cdv, ct, osl, a, l, c, kp⟩ := k
  exact ⟨f, _, PySem.W.mg_of X G a, fun_mk l c kp⟩
theorem KPr.kp {x : Str} {i j : Int} (k : KPr K x i j) : Kp K mg x i j := by
  obtain ⟨a, od, t, u, n, osl, e, l⟩ := k
  exact ⟨a, _, _, n, PySem.W.mg_of X G e, l, rfl, rfl, t, u, rfl⟩
theorem KIn.it {x : Str} {i : Int} (k : KIn K x i) : ∃ t, mg x = some (.int i t) := by
  obtain ⟨t, e⟩ := k
  exact ⟨t, PySem.W.mg_of X G e⟩
theorem KNo.no {x : Str} (k : KNo K x) : mg x = none := PySem.W.mg_none_of X G k
end
theorem KMt.md {K : PySem.W.Frag} {C : Addr} {m qual : Str} {st : Stmt} (k : KMt K C m qual st) : Md K C m qual st := by
  obtain ⟨f, oc, od, kV, doc, pm, an, cdv, ct, osl, a, i, l, c, kp⟩ := k
  exact ⟨f, _, ⟨a, i, kp⟩, fun_mk l c kp⟩
theorem tx_mk {K : PySem.W.Frag} {h : Heap} {mg : Str → Option Value} {C : Addr} (X : K.In h) (G : h.Ns mainGlobals mg)
    (hgcd : PySem.W.nsIn K mainGlobals "gcd" = some (some (.builtin "math.gcd")))
    (pNONE : KPr K "NONE" 0 1)
    (pWHOLE : KPr K "WHOLE" 1 1)
    (iLARGEST : KIn K "LARGEST" 1000)
    (iMAX_VALUES : KIn K "MAX_VALUES" 30)
    (iMAX_LAYERS : KIn K "MAX_LAYERS" 4)
    (iMAX_WEATHERS : KIn K "MAX_WEATHERS" 4)
    (iMAX_TREATIES : KIn K "MAX_TREATIES" 4)
    (iMAX_LINES : KIn K "MAX_LINES" 3)
    (iMAX_YEARS : KIn K "MAX_YEARS" 60)
    (iMAX_RESERVE : KIn K "MAX_RESERVE" 100000)
    (iMAX_STATES : KIn K "MAX_STATES" 20000)
    (n_len : KNo K "len")
    (n_range : KNo K "range")
    (n_sum : KNo K "sum")
    (n_sorted : KNo K "sorted")
    (n_isinstance : KNo K "isinstance")
    (n_abs : KNo K "abs")
    (n_min : KNo K "min")
    (n_max : KNo K "max")
    (n_int : KNo K "int")
    (n_list : KNo K "list")
    (n_any : KNo K "any")
    (n_all : KNo K "all")
    (n_reversed : KNo K "reversed")
    (n_repr : KNo K "repr")
    (n_tuple : KNo K "tuple")
    (n_bool : KNo K "bool")
    (f_fraction : KFn K "fraction" s_fraction)
    (f_plus : KFn K "plus" s_plus)
    (f_times : KFn K "times" s_times)
    (f_is_less : KFn K "is_less" s_is_less)
    (f_is_fraction : KFn K "is_fraction" s_is_fraction)
    (f_sum_all : KFn K "sum_all" s_sum_all)
    (f_check_spread : KFn K "check_spread" s_check_spread)
    (f_gathered : KFn K "gathered" s_gathered)
    (f_sum_of : KFn K "sum_of" s_sum_of)
    (f_shifted : KFn K "shifted" s_shifted)
    (f_require : KFn K "require" s_require)
    (f_check_damage : KFn K "check_damage" s_check_damage)
    (f_is_amount : KFn K "is_amount" s_is_amount)
    (f_check_layer : KFn K "check_layer" s_check_layer)
    (f_check_treaty : KFn K "check_treaty" s_check_treaty)
    (f_remaining : KFn K "remaining" s_remaining)
    (f_after_treaty : KFn K "after_treaty" s_after_treaty)
    (f_check_valid : KFn K "check_valid" s_check_valid)
    (f_check_weather : KFn K "check_weather" s_check_weather)
    (f_check_house : KFn K "check_house" s_check_house)
    (f_weather_at : KFn K "weather_at" s_weather_at)
    (f_total_damage : KFn K "total_damage" s_total_damage)
    (f_change_of : KFn K "change_of" s_change_of)
    (f_all_changes : KFn K "all_changes" s_all_changes)
    (f_check_state : KFn K "check_state" s_check_state)
    (f_least_ruin : KFn K "least_ruin" s_least_ruin)
    (f_best_treaty : KFn K "best_treaty" s_best_treaty)
    (f_chosen : KFn K "chosen" s_chosen)
    (f_plan_ruin : KFn K "plan_ruin" s_plan_ruin)
    (f_outlook : KFn K "outlook" s_outlook)
    (f_law_cell : KFn K "_law_cell" s_law_cell)
    (f_law_digits : KFn K "_law_digits" s_law_digits)
    (f_law_fraction : KFn K "_law_fraction" s_law_fraction)
    (f_law_plus : KFn K "_law_plus" s_law_plus)
    (f_law_times : KFn K "_law_times" s_law_times)
    (f_law_less : KFn K "_law_less" s_law_less)
    (f_law_spread : KFn K "_law_spread" s_law_spread)
    (f_law_house : KFn K "_law_house" s_law_house)
    (f_law_remaining : KFn K "_law_remaining" s_law_remaining)
    (f_law_changes : KFn K "_law_changes" s_law_changes)
    (f_law_year : KFn K "_law_year" s_law_year)
    (f_law_way : KFn K "_law_way" s_law_way)
    (f_law_reached : KFn K "_law_reached" s_law_reached)
    (f_law_least : KFn K "_law_least" s_law_least)
    (f_law_forward : KFn K "_law_forward" s_law_forward)
    (f_law_best : KFn K "_law_best" s_law_best)
    (f_law_planned : KFn K "_law_planned" s_law_planned)
    (f_law : KFn K "law" s_law)
    (cl : KCl K C)
    (a_house : PySem.W.findIn K (.ref C) "house" = some none)
    (a_plan : PySem.W.findIn K (.ref C) "plan" = some none)
    (a_changes : PySem.W.findIn K (.ref C) "changes" = some none)
    (a_count : PySem.W.findIn K (.ref C) "count" = some none)
    (m_Span_init : KMt K C "__init__" "Span.__init__" s_Span_init)
    (m_Span_treaties : KMt K C "treaties" "Span.treaties" s_Span_treaties)
    (m_Span_following : KMt K C "following" "Span.following" s_Span_following)
    (m_Span_layers : KMt K C "layers" "Span.layers" s_Span_layers)
    (m_Span_with_treaty : KMt K C "with_treaty" "Span.with_treaty" s_Span_with_treaty)
    (m_Span_best : KMt K C "best" "Span.best" s_Span_best)
    (m_Span_ruin : KMt K C "ruin" "Span.ruin" s_Span_ruin)
    : Tx K mg := by
  obtain ⟨c1, c2, c3, c4, c5, c6, c7⟩ := cl
  obtain ⟨fi, fdi, mi, Fi⟩ := m_Span_init.md
  exact ⟨PySem.W.mg_of X G hgcd,
    pNONE.kp X G,
    pWHOLE.kp X G,
    iLARGEST.it X G,
    iMAX_VALUES.it X G,
    iMAX_LAYERS.it X G,
    iMAX_WEATHERS.it X G,
    iMAX_TREATIES.it X G,
    iMAX_LINES.it X G,
    iMAX_YEARS.it X G,
    iMAX_RESERVE.it X G,
    iMAX_STATES.it X G,
    n_len.no X G,
    n_range.no X G,
    n_sum.no X G,
    n_sorted.no X G,
    n_isinstance.no X G,
    n_abs.no X G,
    n_min.no X G,
    n_max.no X G,
    n_int.no X G,
    n_list.no X G,
    n_any.no X G,
    n_all.no X G,
    n_reversed.no X G,
    n_repr.no X G,
    n_tuple.no X G,
    n_bool.no X G,
    f_fraction.gd X G,
    f_plus.gd X G,
    f_times.gd X G,
    f_is_less.gd X G,
    f_is_fraction.gd X G,
    f_sum_all.gd X G,
    f_check_spread.gd X G,
    f_gathered.gd X G,
    f_sum_of.gd X G,
    f_shifted.gd X G,
    f_require.gd X G,
    f_check_damage.gd X G,
    f_is_amount.gd X G,
    f_check_layer.gd X G,
    f_check_treaty.gd X G,
    f_remaining.gd X G,
    f_after_treaty.gd X G,
    f_check_valid.gd X G,
    f_check_weather.gd X G,
    f_check_house.gd X G,
    f_weather_at.gd X G,
    f_total_damage.gd X G,
    f_change_of.gd X G,
    f_all_changes.gd X G,
    f_check_state.gd X G,
    f_least_ruin.gd X G,
    f_best_treaty.gd X G,
    f_chosen.gd X G,
    f_plan_ruin.gd X G,
    f_outlook.gd X G,
    f_law_cell.gd X G,
    f_law_digits.gd X G,
    f_law_fraction.gd X G,
    f_law_plus.gd X G,
    f_law_times.gd X G,
    f_law_less.gd X G,
    f_law_spread.gd X G,
    f_law_house.gd X G,
    f_law_remaining.gd X G,
    f_law_changes.gd X G,
    f_law_year.gd X G,
    f_law_way.gd X G,
    f_law_reached.gd X G,
    f_law_least.gd X G,
    f_law_forward.gd X G,
    f_law_best.gd X G,
    f_law_planned.gd X G,
    f_law.gd X G,
    ⟨C, PySem.W.mg_of X G c1, ⟨c2, c3, c4, c5⟩, a_house, a_plan, a_changes, a_count, ⟨fi, fdi, ⟨c6, mi.at_, mi.fn, c7⟩, Fi⟩, m_Span_treaties.md, m_Span_following.md, m_Span_layers.md, m_Span_with_treaty.md, m_Span_best.md, m_Span_ruin.md⟩⟩
theorem room14 : Room 14 callerA := ⟨rfl, by decide, by decide⟩
/-- the law's def keeps its promise at the caller -/
theorem law_run {P : Program} {w : World} {K : PySem.W.Frag} {mg : Str → Option Value} {fa : Addr} (T : Tx K mg) (hfa : mg "law" = some (.ref fa)) : ∃ fd : FuncData, (∀ (s : Shared) (u : Value), BindsTo s fd ⟨[u], []⟩ [("_law_script", u)]) ∧
    ∀ base : Heap, K.In base → base.Ns mainGlobals mg → ∀ (s : Shared) (H : Hp) (args : Args) (us : List Value) (vs : List V) (Q : VK) (E : XK), Env0 P w K mg base callerA [] s H → BindsTo s fd args ((["_law_script"] : List Str).zip us) → Vals vs us → spLaw K vs H Q E →
      codeAny (model P w) callerA (.call (.ref fa) args) (CR CX0 [] P w H s Q E) s := by
  obtain ⟨f, fd, hf, F⟩ := T.g_law
  have e := hfa.symm.trans hf
  cases e
  refine ⟨fd, fun s u => ?_, fun base _ _ => lawA_def F sc_law room14 fun cdv s H E ns hr _ => law_body T hr⟩
  obtain ⟨oc, od, kV, doc, pm, an, cdv, ct, osl, rfl, lk, hcd⟩ := F.ex
  exact .of_eq rfl
end LC

open PySem PySem.W PyProof.Rows
set_option maxRecDepth 100000 in
set_option maxHeartbeats 0 in
theorem PySem.Challenge.cw_lastcoffer_k80_whole_no_way_does_better_holds : PySem.Challenge.rw_lastcoffer_k80_whole_no_way_does_better.Holds := by
  w_on; o_law; k_head; (case hw => w_witness2)
  k_fill
  refine DL.walkA (l := PySem.Challenge.rw_lastcoffer_k80_whole_no_way_does_better) (p0 := "_law_script") rfl rfl (fun w h Y => PySem.W.kIn_of Y) ?F
  case F =>
    intro w mg fa h KX G hmg
    refine LC.law_run ?T hmg
    refine' LC.tx_mk KX G ?hgcd ?pNONE ?pWHOLE ?iLARGEST ?iMAX_VALUES ?iMAX_LAYERS ?iMAX_WEATHERS ?iMAX_TREATIES ?iMAX_LINES ?iMAX_YEARS ?iMAX_RESERVE ?iMAX_STATES ?n_len ?n_range ?n_sum ?n_sorted ?n_isinstance ?n_abs ?n_min ?n_max ?n_int ?n_list ?n_any ?n_all ?n_reversed ?n_repr ?n_tuple ?n_bool ?f_fraction ?f_plus ?f_times ?f_is_less ?f_is_fraction ?f_sum_all ?f_check_spread ?f_gathered ?f_sum_of ?f_shifted ?f_require ?f_check_damage ?f_is_amount ?f_check_layer ?f_check_treaty ?f_remaining ?f_after_treaty ?f_check_valid ?f_check_weather ?f_check_house ?f_weather_at ?f_total_damage ?f_change_of ?f_all_changes ?f_check_state ?f_least_ruin ?f_best_treaty ?f_chosen ?f_plan_ruin ?f_outlook ?f_law_cell ?f_law_digits ?f_law_fraction ?f_law_plus ?f_law_times ?f_law_less ?f_law_spread ?f_law_house ?f_law_remaining ?f_law_changes ?f_law_year ?f_law_way ?f_law_reached ?f_law_least ?f_law_forward ?f_law_best ?f_law_planned ?f_law ?cl ?a_house ?a_plan ?a_changes ?a_count ?m_Span_init ?m_Span_treaties ?m_Span_following ?m_Span_layers ?m_Span_with_treaty ?m_Span_best ?m_Span_ruin
    (case hgcd => k_is)
    (case pNONE => exact ⟨_, _, _, _, _, _, by k_is, by k_is⟩)
    (case pWHOLE => exact ⟨_, _, _, _, _, _, by k_is, by k_is⟩)
    (case iLARGEST => exact ⟨_, by k_is⟩)
    (case iMAX_VALUES => exact ⟨_, by k_is⟩)
    (case iMAX_LAYERS => exact ⟨_, by k_is⟩)
    (case iMAX_WEATHERS => exact ⟨_, by k_is⟩)
    (case iMAX_TREATIES => exact ⟨_, by k_is⟩)
    (case iMAX_LINES => exact ⟨_, by k_is⟩)
    (case iMAX_YEARS => exact ⟨_, by k_is⟩)
    (case iMAX_RESERVE => exact ⟨_, by k_is⟩)
    (case iMAX_STATES => exact ⟨_, by k_is⟩)
    (case n_len => unfold LC.KNo; k_is)
    (case n_range => unfold LC.KNo; k_is)
    (case n_sum => unfold LC.KNo; k_is)
    (case n_sorted => unfold LC.KNo; k_is)
    (case n_isinstance => unfold LC.KNo; k_is)
    (case n_abs => unfold LC.KNo; k_is)
    (case n_min => unfold LC.KNo; k_is)
    (case n_max => unfold LC.KNo; k_is)
    (case n_int => unfold LC.KNo; k_is)
    (case n_list => unfold LC.KNo; k_is)
    (case n_any => unfold LC.KNo; k_is)
    (case n_all => unfold LC.KNo; k_is)
    (case n_reversed => unfold LC.KNo; k_is)
    (case n_repr => unfold LC.KNo; k_is)
    (case n_tuple => unfold LC.KNo; k_is)
    (case n_bool => unfold LC.KNo; k_is)
    (case f_fraction => exact ⟨_, _, _, _, _, _, _, _, _, _, by k_is, by k_is, by k_is, by k_is⟩)
    (case f_plus => exact ⟨_, _, _, _, _, _, _, _, _, _, by k_is, by k_is, by k_is, by k_is⟩)
    (case f_times => exact ⟨_, _, _, _, _, _, _, _, _, _, by k_is, by k_is, by k_is, by k_is⟩)
    (case f_is_less => exact ⟨_, _, _, _, _, _, _, _, _, _, by k_is, by k_is, by k_is, by k_is⟩)
    (case f_is_fraction => exact ⟨_, _, _, _, _, _, _, _, _, _, by k_is, by k_is, by k_is, by k_is⟩)
    (case f_sum_all => exact ⟨_, _, _, _, _, _, _, _, _, _, by k_is, by k_is, by k_is, by k_is⟩)
    (case f_check_spread => exact ⟨_, _, _, _, _, _, _, _, _, _, by k_is, by k_is, by k_is, by k_is⟩)
    (case f_gathered => exact ⟨_, _, _, _, _, _, _, _, _, _, by k_is, by k_is, by k_is, by k_is⟩)
    (case f_sum_of => exact ⟨_, _, _, _, _, _, _, _, _, _, by k_is, by k_is, by k_is, by k_is⟩)
    (case f_shifted => exact ⟨_, _, _, _, _, _, _, _, _, _, by k_is, by k_is, by k_is, by k_is⟩)
    (case f_require => exact ⟨_, _, _, _, _, _, _, _, _, _, by k_is, by k_is, by k_is, by k_is⟩)
    (case f_check_damage => exact ⟨_, _, _, _, _, _, _, _, _, _, by k_is, by k_is, by k_is, by k_is⟩)
    (case f_is_amount => exact ⟨_, _, _, _, _, _, _, _, _, _, by k_is, by k_is, by k_is, by k_is⟩)
    (case f_check_layer => exact ⟨_, _, _, _, _, _, _, _, _, _, by k_is, by k_is, by k_is, by k_is⟩)
    (case f_check_treaty => exact ⟨_, _, _, _, _, _, _, _, _, _, by k_is, by k_is, by k_is, by k_is⟩)
    (case f_remaining => exact ⟨_, _, _, _, _, _, _, _, _, _, by k_is, by k_is, by k_is, by k_is⟩)
    (case f_after_treaty => exact ⟨_, _, _, _, _, _, _, _, _, _, by k_is, by k_is, by k_is, by k_is⟩)
    (case f_check_valid => exact ⟨_, _, _, _, _, _, _, _, _, _, by k_is, by k_is, by k_is, by k_is⟩)
    (case f_check_weather => exact ⟨_, _, _, _, _, _, _, _, _, _, by k_is, by k_is, by k_is, by k_is⟩)
    (case f_check_house => exact ⟨_, _, _, _, _, _, _, _, _, _, by k_is, by k_is, by k_is, by k_is⟩)
    (case f_weather_at => exact ⟨_, _, _, _, _, _, _, _, _, _, by k_is, by k_is, by k_is, by k_is⟩)
    (case f_total_damage => exact ⟨_, _, _, _, _, _, _, _, _, _, by k_is, by k_is, by k_is, by k_is⟩)
    (case f_change_of => exact ⟨_, _, _, _, _, _, _, _, _, _, by k_is, by k_is, by k_is, by k_is⟩)
    (case f_all_changes => exact ⟨_, _, _, _, _, _, _, _, _, _, by k_is, by k_is, by k_is, by k_is⟩)
    (case f_check_state => exact ⟨_, _, _, _, _, _, _, _, _, _, by k_is, by k_is, by k_is, by k_is⟩)
    (case f_least_ruin => exact ⟨_, _, _, _, _, _, _, _, _, _, by k_is, by k_is, by k_is, by k_is⟩)
    (case f_best_treaty => exact ⟨_, _, _, _, _, _, _, _, _, _, by k_is, by k_is, by k_is, by k_is⟩)
    (case f_chosen => exact ⟨_, _, _, _, _, _, _, _, _, _, by k_is, by k_is, by k_is, by k_is⟩)
    (case f_plan_ruin => exact ⟨_, _, _, _, _, _, _, _, _, _, by k_is, by k_is, by k_is, by k_is⟩)
    (case f_outlook => exact ⟨_, _, _, _, _, _, _, _, _, _, by k_is, by k_is, by k_is, by k_is⟩)
    (case f_law_cell => exact ⟨_, _, _, _, _, _, _, _, _, _, by k_is, by k_is, by k_is, by k_is⟩)
    (case f_law_digits => exact ⟨_, _, _, _, _, _, _, _, _, _, by k_is, by k_is, by k_is, by k_is⟩)
    (case f_law_fraction => exact ⟨_, _, _, _, _, _, _, _, _, _, by k_is, by k_is, by k_is, by k_is⟩)
    (case f_law_plus => exact ⟨_, _, _, _, _, _, _, _, _, _, by k_is, by k_is, by k_is, by k_is⟩)
    (case f_law_times => exact ⟨_, _, _, _, _, _, _, _, _, _, by k_is, by k_is, by k_is, by k_is⟩)
    (case f_law_less => exact ⟨_, _, _, _, _, _, _, _, _, _, by k_is, by k_is, by k_is, by k_is⟩)
    (case f_law_spread => exact ⟨_, _, _, _, _, _, _, _, _, _, by k_is, by k_is, by k_is, by k_is⟩)
    (case f_law_house => exact ⟨_, _, _, _, _, _, _, _, _, _, by k_is, by k_is, by k_is, by k_is⟩)
    (case f_law_remaining => exact ⟨_, _, _, _, _, _, _, _, _, _, by k_is, by k_is, by k_is, by k_is⟩)
    (case f_law_changes => exact ⟨_, _, _, _, _, _, _, _, _, _, by k_is, by k_is, by k_is, by k_is⟩)
    (case f_law_year => exact ⟨_, _, _, _, _, _, _, _, _, _, by k_is, by k_is, by k_is, by k_is⟩)
    (case f_law_way => exact ⟨_, _, _, _, _, _, _, _, _, _, by k_is, by k_is, by k_is, by k_is⟩)
    (case f_law_reached => exact ⟨_, _, _, _, _, _, _, _, _, _, by k_is, by k_is, by k_is, by k_is⟩)
    (case f_law_least => exact ⟨_, _, _, _, _, _, _, _, _, _, by k_is, by k_is, by k_is, by k_is⟩)
    (case f_law_forward => exact ⟨_, _, _, _, _, _, _, _, _, _, by k_is, by k_is, by k_is, by k_is⟩)
    (case f_law_best => exact ⟨_, _, _, _, _, _, _, _, _, _, by k_is, by k_is, by k_is, by k_is⟩)
    (case f_law_planned => exact ⟨_, _, _, _, _, _, _, _, _, _, by k_is, by k_is, by k_is, by k_is⟩)
    (case f_law => exact ⟨_, _, _, _, _, _, _, _, _, _, by k_is, by k_is, by k_is, by k_is⟩)
    (case cl => exact ⟨by k_is, by k_is, by k_is, by k_is, by k_is, by k_is, by k_is⟩)
    (case a_house => k_is)
    (case a_plan => k_is)
    (case a_changes => k_is)
    (case a_count => k_is)
    (case m_Span_init => exact ⟨_, _, _, _, _, _, _, _, _, _, by k_is, by k_is, by k_is, by k_is, by k_is⟩)
    (case m_Span_treaties => exact ⟨_, _, _, _, _, _, _, _, _, _, by k_is, by k_is, by k_is, by k_is, by k_is⟩)
    (case m_Span_following => exact ⟨_, _, _, _, _, _, _, _, _, _, by k_is, by k_is, by k_is, by k_is, by k_is⟩)
    (case m_Span_layers => exact ⟨_, _, _, _, _, _, _, _, _, _, by k_is, by k_is, by k_is, by k_is, by k_is⟩)
    (case m_Span_with_treaty => exact ⟨_, _, _, _, _, _, _, _, _, _, by k_is, by k_is, by k_is, by k_is, by k_is⟩)
    (case m_Span_best => exact ⟨_, _, _, _, _, _, _, _, _, _, by k_is, by k_is, by k_is, by k_is, by k_is⟩)
    (case m_Span_ruin => exact ⟨_, _, _, _, _, _, _, _, _, _, by k_is, by k_is, by k_is, by k_is, by k_is⟩)
