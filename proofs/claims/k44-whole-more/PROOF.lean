import PyProof.Rows.All
import Wide.All
import OpenK.AllK
import Wide.FinOn
import HandS.ForMost
import HandS.Deep
import HandS.TupAny
import HandS.Codes
import HandS.Style
import HandS.Zip
import HandS.Walk
import KE.SortData
import HandS.NoneIn
import HandS.DictComp
import HandS.Small
import KE.KDictCopyH
import KE.KDictSum
import HandS.More
import KE.KDictZip
import HandS.TupSets
import KE.KDictPairs
import KE.GoesMore
import KE.SortLaws
import KE.OsSortAny
import PyProof.ReprRoads
import PyProof.Rows.RegFStrParts
import KE.KStateDown
import Lean
import HandS.Defaults
import HandS.Ends
import HandS.Head0
import HandS.Head1
import HandS.Head2
import HandS.HeadEnd
import HandS.HeadHook1
import HandS.HeadHook2
import PySem.Challenge.RW_staffhome_k44_whole_more_never_harms_one
set_option Elab.async false
set_option linter.all false
set_option maxRecDepth 100000
set_option maxHeartbeats 1000000
/-! A small logic of symbolic states over the layer: what the slots hold as data, which lists and dicts are mine to change. -/
namespace Sx
open PySem L2

/-- the heap without the addresses that are being changed -/
def hid (M : List Addr) (H : Hp) : Hp := fun a => if a ∈ M then none else H a
theorem hid_in {M : List Addr} {H : Hp} {a : Addr} (h : a ∈ M) : hid M H a = none := by
  unfold hid
  rw [if_pos h]
theorem hid_out {M : List Addr} {H : Hp} {a : Addr} (h : a ∉ M) : hid M H a = H a := by
  unfold hid
  rw [if_neg h]
theorem hid_some {M : List Addr} {H : Hp} {a : Addr} {o : HO} (h : hid M H a = some o) : a ∉ M ∧ H a = some o := by
  by_cases q : a ∈ M
  · rw [hid_in q] at h
    cases h
  · rw [hid_out q] at h
    exact ⟨q, h⟩
theorem same_hid {M : List Addr} {H : Hp} : Same (hid M H) H := fun a o h => (hid_some h).2
theorem hid_mono {M : List Addr} {H H' : Hp} (e : Same H H') : Same (hid M H) (hid M H') := fun a o h => by
  obtain ⟨h1, h2⟩ := hid_some h
  rw [hid_out h1]
  exact e a o h2
theorem hid_sub {M N : List Addr} {H : Hp} (e : ∀ a ∈ N, a ∈ M) : Same (hid M H) (hid N H) := fun a o h => by
  obtain ⟨h1, h2⟩ := hid_some h
  rw [hid_out fun q => h1 (e a q)]
  exact h2
theorem hid_sub2 {M N : List Addr} {H H' : Hp} (e : ∀ a ∈ N, a ∈ M) (s : Same (hid N H) (hid N H')) : Same (hid M H) (hid M H') := fun a o h => by
  obtain ⟨h1, h2⟩ := hid_some h
  have h3 : hid N H a = some o := by
    rw [hid_out fun q => h1 (e a q)]
    exact h2
  have h4 := s a o h3
  rw [hid_out h1]
  exact (hid_some h4).2
/-- a hidden one is changed -/
theorem hid_upd {M : List Addr} {H : Hp} {a : Addr} {o : HO} (h : a ∈ M) : hid M (upd H a o) = hid M H := by
  funext b
  by_cases q : b ∈ M
  · rw [hid_in q, hid_in q]
  · rw [hid_out q, hid_out q, upd_ne (fun e => q (by rw [e]; exact h))]
theorem same_new {H : Hp} {p : Addr} {o : HO} (h : H p = none) : Same H (upd H p o) := fun a u e => by
  rw [upd_ne (ne_of_none e h)]
  exact e
/-- the hidden ones stand in the heap -/
def Trk (M : List Addr) (H : Hp) : Prop := ∀ a ∈ M, ∃ o, H a = some o ∧ ∀ xs, o ≠ HO.tup xs
theorem Trk.fresh {M : List Addr} {H : Hp} {p : Addr} (t : Trk M H) (h : H p = none) : p ∉ M := fun q => by
  obtain ⟨o, e, _⟩ := t p q
  rw [h] at e
  cases e
theorem Trk.mono {M : List Addr} {H H' : Hp} (t : Trk M H) (e : Same H H') : Trk M H' := fun a m => by
  obtain ⟨o, h, n⟩ := t a m
  exact ⟨o, e a o h, n⟩
theorem hid_new {M : List Addr} {H : Hp} {p : Addr} {o : HO} (t : Trk M H) (h : H p = none) : hid M (upd H p o) p = some o := by
  rw [hid_out (t.fresh h)]
  exact upd_same

/-! a value and the data it holds: tuples and lists as they stand in the heap -/
mutual
inductive Dq (H : Hp) : V → PyData → Prop
  | non : Dq H .non .none
  | bl (b : Bool) : Dq H (.bl b) (.bool b)
  | int (i : Int) : Dq H (.int i) (.int i)
  | str (z : Str) : Dq H (.str z) (.str z)
  | lst {a : Addr} {vs : List V} {ds : List PyData} (h : H a = some (.lst vs)) (r : DqAll H vs ds) : Dq H (.ref a) (.list ds)
  | tup {a : Addr} {vs : List V} {ds : List PyData} (h : H a = some (.tup vs)) (r : DqAll H vs ds) : Dq H (.ref a) (.tuple ds)
inductive DqAll (H : Hp) : List V → List PyData → Prop
  | nil : DqAll H [] []
  | cons {v : V} {vs : List V} {d : PyData} {ds : List PyData} (h : Dq H v d) (r : DqAll H vs ds) : DqAll H (v :: vs) (d :: ds)
end
section
variable {H H' : Hp}
mutual
theorem Dq.dp {K : PySem.W.Frag} : ∀ {v : V} {d : PyData}, Dq H v d → Dp K H v d
  | _, _, .non => .non
  | _, _, .bl b => .bl b
  | _, _, .int i => .int i
  | _, _, .str z => .str z
  | _, _, .lst h r => .lst (.inl (.inl h)) r.dp
  | _, _, .tup h r => .tup (.inl (.inl h)) r.dp
theorem DqAll.dp {K : PySem.W.Frag} : ∀ {vs : List V} {ds : List PyData}, DqAll H vs ds → DpAll K H vs ds
  | _, _, .nil => .nil
  | _, _, .cons h r => .cons h.dp r.dp
end
theorem rd_mono {a : Addr} {u : HO} (e : Same H H') (h : Rd H a u) : Rd H' a u := by
  rcases h with h | ⟨o, h⟩
  · exact .inl (e _ _ h)
  · exact .inr ⟨o, e _ _ h⟩
theorem sql_mono {K : PySem.W.Frag} {a : Addr} {xs : List V} (e : Same H H') (h : SqL K H a xs) : SqL K H' a xs := h.imp (rd_mono e) id
theorem sqt_mono {K : PySem.W.Frag} {a : Addr} {xs : List V} (e : Same H H') (h : SqT K H a xs) : SqT K H' a xs := h.imp (rd_mono e) id
mutual
theorem dp_mono (e : Same H H') : ∀ {d : PyData} {v : V}, Dq H v d → Dq H' v d
  | _, _, .non => .non
  | _, _, .bl b => .bl b
  | _, _, .int i => .int i
  | _, _, .str x => .str x
  | _, _, .lst h r => .lst (e _ _ h) (dps_mono e r)
  | _, _, .tup h r => .tup (e _ _ h) (dps_mono e r)
theorem dps_mono (e : Same H H') : ∀ {ds : List PyData} {vs : List V}, DqAll H vs ds → DqAll H' vs ds
  | _, _, .nil => .nil
  | _, _, .cons a r => .cons (dp_mono e a) (dps_mono e r)
end
theorem dps_len : ∀ {vs : List V} {ds : List PyData}, DqAll H vs ds → vs.length = ds.length
  | _, _, .nil => rfl
  | _, _, .cons _ r => congrArg (· + 1) (dps_len r)
theorem dps_get : ∀ {vs : List V} {ds : List PyData} {i : Nat} {v : V}, DqAll H vs ds → vs[i]? = some v → ∃ d, ds[i]? = some d ∧ Dq H v d
  | _, _, _, _, .nil, e => by simp at e
  | _, _, 0, _, .cons a _, e => by
    simp at e
    subst e
    exact ⟨_, rfl, a⟩
  | _, _, i + 1, _, .cons _ r, e => by
    obtain ⟨d, h1, h2⟩ := dps_get (i := i) r (by simpa using e)
    exact ⟨d, by simpa using h1, h2⟩
theorem dps_at : ∀ {vs : List V} {ds : List PyData} {i : Nat} {d : PyData}, DqAll H vs ds → ds[i]? = some d → ∃ v, vs[i]? = some v ∧ Dq H v d
  | _, _, _, _, .nil, e => by simp at e
  | _, _, 0, _, .cons a _, e => by
    simp at e
    subst e
    exact ⟨_, rfl, a⟩
  | _, _, i + 1, _, .cons _ r, e => by
    obtain ⟨d, h1, h2⟩ := dps_at (i := i) r (by simpa using e)
    exact ⟨d, by simpa using h1, h2⟩
theorem dps_app : ∀ {vs us : List V} {ds es : List PyData}, DqAll H vs ds → DqAll H us es → DqAll H (vs ++ us) (ds ++ es)
  | _, _, _, _, .nil, b => b
  | _, _, _, _, .cons a r, b => .cons a (dps_app r b)
theorem dps_take : ∀ {vs : List V} {ds : List PyData} (n : Nat), DqAll H vs ds → DqAll H (vs.take n) (ds.take n)
  | _, _, 0, _ => by
    rw [List.take_zero, List.take_zero]
    exact .nil
  | _, _, n + 1, .nil => by
    rw [List.take_nil, List.take_nil]
    exact .nil
  | _, _, n + 1, .cons a r => .cons a (dps_take n r)
theorem dps_drop : ∀ {vs : List V} {ds : List PyData} (n : Nat), DqAll H vs ds → DqAll H (vs.drop n) (ds.drop n)
  | _, _, 0, h => h
  | _, _, n + 1, .nil => by
    rw [List.drop_nil, List.drop_nil]
    exact .nil
  | _, _, n + 1, .cons a r => dps_drop n r
theorem dps_set : ∀ {vs : List V} {ds : List PyData} {v : V} {d : PyData} (n : Nat), Dq H v d → DqAll H vs ds → DqAll H (vs.set n v) (ds.set n d)
  | _, _, _, _, 0, _, .nil => .nil
  | _, _, _, _, n + 1, _, .nil => .nil
  | _, _, _, _, 0, h, .cons a r => .cons h r
  | _, _, _, _, n + 1, h, .cons a r => .cons a (dps_set n h r)
theorem dps_rev : ∀ {vs : List V} {ds : List PyData}, DqAll H vs ds → DqAll H vs.reverse ds.reverse
  | _, _, .nil => .nil
  | _, _, .cons a r => by
    rw [List.reverse_cons, List.reverse_cons]
    exact dps_app (dps_rev r) (.cons a .nil)
end

/-- the entries of a dict: the same keys, values that hold the data -/
def KvOk {κ : Type} (H : Hp) : List (κ × V) → List (κ × PyData) → Prop
  | [], [] => True
  | p :: r, q :: s => p.1 = q.1 ∧ Dq H p.2 q.2 ∧ KvOk H r s
  | _, _ => False
section
variable {H H' : Hp} {κ : Type}
theorem kv_mono (e : Same H H') : ∀ {a : List (κ × V)} {b : List (κ × PyData)}, KvOk H a b → KvOk H' a b
  | [], [], _ => trivial
  | _ :: _, _ :: _, h => ⟨h.1, dp_mono e h.2.1, kv_mono e h.2.2⟩
  | [], _ :: _, h => h.elim
  | _ :: _, [], h => h.elim
theorem kv_len : ∀ {a : List (κ × V)} {b : List (κ × PyData)}, KvOk H a b → a.length = b.length
  | [], [], _ => rfl
  | _ :: _, _ :: _, h => congrArg (· + 1) (kv_len h.2.2)
  | [], _ :: _, h => h.elim
  | _ :: _, [], h => h.elim
theorem kv_keys : ∀ {a : List (κ × V)} {b : List (κ × PyData)}, KvOk H a b → a.map (·.1) = b.map (·.1)
  | [], [], _ => rfl
  | _ :: _, _ :: _, h => by
    rw [List.map_cons, List.map_cons, h.1, kv_keys h.2.2]
  | [], _ :: _, h => h.elim
  | _ :: _, [], h => h.elim
end

/-- what a value is known to be -/
inductive Ty where
  /-- nothing is known, not even that there is one -/
  | any
  | im (d : PyData)
  | rf (a : Addr)
  | dK (kvs : List (Key × PyData))
  | dT (kvs : List (List Key × PyData))
  | pr (φ : V → Hp → Prop)

def Ty.holds (v : V) (H : Hp) : Ty → Prop
  | .any => True
  | .im d => Dq H v d
  | .rf a => v = .ref a
  | .dK kvs => ∃ a vs, v = .ref a ∧ H a = some (.dK vs) ∧ KvOk H vs kvs
  | .dT kvs => ∃ a vs, v = .ref a ∧ H a = some (.dT vs) ∧ KvOk H vs kvs
  | .pr φ => ∀ H', Same H H' → φ v H'
theorem Ty.mono {v : V} {H H' : Hp} (e : Same H H') : ∀ {t : Ty}, t.holds v H → t.holds v H'
  | .any, _ => trivial
  | .im _, h => dp_mono e h
  | .rf _, h => h
  | .dK _, ⟨a, vs, h1, h2, h3⟩ => ⟨a, vs, h1, e _ _ h2, kv_mono e h3⟩
  | .dT _, ⟨a, vs, h1, h2, h3⟩ => ⟨a, vs, h1, e _ _ h2, kv_mono e h3⟩
  | .pr _, h => fun H2 e2 => h H2 (e.trans e2)

/-- what stands at an address of mine -/
inductive MO where
  | lst (ds : List PyData)
  | dK (kvs : List (Key × PyData))
  | dT (kvs : List (List Key × PyData))
  | pr (φ : Hp → HO → Prop)
def MO.holds (Hv H : Hp) (a : Addr) : MO → Prop
  | .lst ds => ∃ vs, H a = some (.lst vs) ∧ DqAll Hv vs ds
  | .dK kvs => ∃ vs, H a = some (.dK vs) ∧ KvOk Hv vs kvs
  | .dT kvs => ∃ vs, H a = some (.dT vs) ∧ KvOk Hv vs kvs
  | .pr φ => ∃ o, H a = some o ∧ (∀ xs, o ≠ HO.tup xs) ∧ ∀ H', Same Hv H' → φ H' o
theorem MO.some {Hv H : Hp} {a : Addr} : ∀ {m : MO}, m.holds Hv H a → H a ≠ none
  | .lst _, ⟨_, h, _⟩ => by rw [h]; exact fun q => nomatch q
  | .dK _, ⟨_, h, _⟩ => by rw [h]; exact fun q => nomatch q
  | .dT _, ⟨_, h, _⟩ => by rw [h]; exact fun q => nomatch q
  | .pr _, ⟨_, h, _⟩ => by rw [h]; exact fun q => nomatch q
theorem MO.obj {Hv H : Hp} {a : Addr} : ∀ {m : MO}, m.holds Hv H a → ∃ o, H a = Option.some o ∧ ∀ xs, o ≠ HO.tup xs
  | .lst _, ⟨_, h, _⟩ => ⟨_, h, fun _ q => (nomatch q)⟩
  | .dK _, ⟨_, h, _⟩ => ⟨_, h, fun _ q => (nomatch q)⟩
  | .dT _, ⟨_, h, _⟩ => ⟨_, h, fun _ q => (nomatch q)⟩
  | .pr _, ⟨_, h, n, _⟩ => ⟨_, h, n⟩
theorem MO.mono {Hv Hv' H H' : Hp} {a : Addr} (e : Same Hv Hv') (eq : H' a = H a) : ∀ {m : MO}, m.holds Hv H a → m.holds Hv' H' a
  | .lst _, ⟨vs, h, r⟩ => ⟨vs, by rw [eq]; exact h, dps_mono e r⟩
  | .dK _, ⟨vs, h, r⟩ => ⟨vs, by rw [eq]; exact h, kv_mono e r⟩
  | .dT _, ⟨vs, h, r⟩ => ⟨vs, by rw [eq]; exact h, kv_mono e r⟩
  | .pr _, ⟨o, h, n, r⟩ => ⟨o, by rw [eq]; exact h, n, fun H2 e2 => r H2 (e.trans e2)⟩

/-- the bag of the law's draws: at b, its cells at c -/
def BagAt (H : Hp) (b c : Addr) : Prop := b ≠ c ∧ ∃ (s0 s1 s2 : Int) (cells : List Int),
  H b = some (.lst [.int s0, .int s1, .int s2, .ref c]) ∧ H c = some (.lst (cells.map V.int)) ∧ 0 ≤ s0 ∧ 0 ≤ s1 ∧ s1 < 2147483647 ∧ 0 ≤ s2 ∧ cells.length ≤ 63 ∧ ∀ x ∈ cells, 0 ≤ x

/-- a symbolic state: the slots, what is mine, the bag -/
structure SS where
  g : List Ty
  l : List (Addr × MO)
  b : Option (Addr × Addr)
def SS.bm (s : SS) : List Addr := match s.b with
  | none => []
  | some (b, _) => [b]
/-- the hidden addresses -/
def SS.M (x : List Addr) (s : SS) : List Addr := s.l.map (·.1) ++ (s.bm ++ x)
def SS.st (s : SS) (i : Nat) (t : Ty) : SS := { s with g := s.g.set i t }

structure Sat (H0 : Hp) (x : List Addr) (ss : SS) (σ : L2.St) (H : Hp) : Prop where
  fr : ∀ a o, a ∉ ss.bm → H0 a = some o → H a = some o
  ls : ∀ q ∈ ss.l, H0 q.1 = none ∧ q.2.holds (hid (ss.M x) H) H q.1
  nd : (ss.l.map (·.1)).Nodup
  bg : ∀ b c, ss.b = some (b, c) → BagAt H b c ∧ H0 b ≠ none ∧ H0 c ≠ none
  tx : Trk x H0
  vr : ∀ (i : Nat) (t : Ty), ss.g[i]? = some t → t = .any ∨ ∃ v, σ[i]? = some (some v) ∧ t.holds v (hid (ss.M x) H)
  ln : σ.length = ss.g.length

section
variable {H0 H H' : Hp} {x : List Addr} {ss : SS} {σ : L2.St}
theorem Sat.trk (S : Sat H0 x ss σ H) : Trk (ss.M x) H := fun a h => by
  have bag : a ∈ ss.bm → ∃ o, H a = some o ∧ ∀ xs, o ≠ HO.tup xs := fun h => by
    unfold SS.bm at h
    split at h
    · cases h
    · next b c e =>
      have e2 := List.mem_singleton.mp h
      subst e2
      obtain ⟨⟨_, s0, s1, s2, cells, h1, _⟩, _⟩ := S.bg _ _ e
      exact ⟨_, h1, fun _ q => (nomatch q)⟩
  rcases List.mem_append.mp h with h | h
  · obtain ⟨q, hq, rfl⟩ := List.mem_map.mp h
    exact MO.obj (S.ls q hq).2
  · rcases List.mem_append.mp h with h | h
    · exact bag h
    · by_cases hb : a ∈ ss.bm
      · exact bag hb
      · obtain ⟨o, h0, n⟩ := S.tx a h
        exact ⟨o, S.fr a o hb h0, n⟩
theorem BagAt.mono {b c : Addr} (e : Same H H') (h : BagAt H b c) : BagAt H' b c := by
  obtain ⟨n, s0, s1, s2, cells, h1, h2, r⟩ := h
  exact ⟨n, s0, s1, s2, cells, e _ _ h1, e _ _ h2, r⟩
/-- the heap has grown -/
theorem Sat.pure (S : Sat H0 x ss σ H) (e : Same H H') : Sat H0 x ss σ H' where
  fr := fun a o n h => e _ _ (S.fr a o n h)
  ls := fun q hq => by
    obtain ⟨h1, h2⟩ := S.ls q hq
    refine ⟨h1, MO.mono (hid_mono e) ?_ h2⟩
    cases z : H q.1 with
    | none => exact absurd z (MO.some h2)
    | some o => exact e _ _ z
  nd := S.nd
  bg := fun b c h => by
    obtain ⟨h1, h2, h3⟩ := S.bg b c h
    exact ⟨h1.mono e, h2, h3⟩
  tx := S.tx
  vr := fun i t h => by
    rcases S.vr i t h with h | ⟨v, h1, h2⟩
    · exact .inl h
    · exact .inr ⟨v, h1, Ty.mono (hid_mono e) h2⟩
  ln := S.ln
theorem get_st {ss : SS} {i j : Nat} {t u : Ty} (h : (ss.st i t).g[j]? = some u) : (i = j ∧ u = t) ∨ (i ≠ j ∧ ss.g[j]? = some u) := by
  unfold SS.st at h
  by_cases e : i = j
  · subst e
    refine .inl ⟨rfl, ?_⟩
    have h' : (ss.g.set i t)[i]? = some u := h
    by_cases q : i < ss.g.length
    · rw [List.getElem?_set_self q] at h'
      exact (Option.some.inj h').symm
    · rw [List.getElem?_eq_none (by rw [List.length_set]; omega)] at h'
      cases h'
  · refine .inr ⟨e, ?_⟩
    have h' : (ss.g.set i t)[j]? = some u := h
    rw [List.getElem?_set_ne e] at h'
    exact h'
/-- a slot is stored -/
theorem Sat.st (S : Sat H0 x ss σ H) {i : Nat} {t : Ty} {v : V} (hi : i < ss.g.length) (h : t.holds v (hid (ss.M x) H)) : Sat H0 x (ss.st i t) (σ.set i (some v)) H where
  fr := S.fr
  ls := S.ls
  nd := S.nd
  bg := S.bg
  tx := S.tx
  vr := fun j u e => by
    rcases get_st e with ⟨rfl, rfl⟩ | ⟨ne, e⟩
    · exact .inr ⟨v, List.getElem?_set_self (by rw [S.ln]; exact hi), h⟩
    · rcases S.vr j u e with z | ⟨w, h1, h2⟩
      · exact .inl z
      · exact .inr ⟨w, by rw [List.getElem?_set_ne ne]; exact h1, h2⟩
  ln := by
    show (σ.set i (some v)).length = (ss.g.set i t).length
    rw [List.length_set, List.length_set, S.ln]
/-- less is known of the slots -/
inductive Wk : List Ty → List Ty → Prop
  | nil : Wk [] []
  | any {t : Ty} {a b : List Ty} : Wk a b → Wk (t :: a) (.any :: b)
  | same {t : Ty} {a b : List Ty} : Wk a b → Wk (t :: a) (t :: b)
theorem Wk.len : ∀ {a b : List Ty}, Wk a b → a.length = b.length
  | _, _, .nil => rfl
  | _, _, .any h => congrArg (· + 1) h.len
  | _, _, .same h => congrArg (· + 1) h.len
theorem Wk.get : ∀ {a b : List Ty} {i : Nat} {t : Ty}, Wk a b → b[i]? = some t → t = .any ∨ a[i]? = some t
  | _, _, _, _, .nil, h => by simp at h
  | _, _, 0, _, .any _, h => by
    simp at h
    exact .inl h.symm
  | _, _, 0, _, .same _, h => .inr h
  | _, _, i + 1, _, .any r, h => Wk.get (i := i) r (by simpa using h)
  | _, _, i + 1, _, .same r, h => Wk.get (i := i) r (by simpa using h)
theorem Sat.weak (S : Sat H0 x ss σ H) {g : List Ty} (w : Wk ss.g g) : Sat H0 x { ss with g := g } σ H where
  fr := S.fr
  ls := S.ls
  nd := S.nd
  bg := S.bg
  tx := S.tx
  vr := fun j u e => by
    rcases w.get e with z | z
    · exact .inl z
    · exact S.vr j u z
  ln := S.ln.trans w.len
end

/-- an expression changes nothing but the bag -/
abbrev Fr (ss : SS) (H H' : Hp) : Prop := Same (hid ss.bm H) (hid ss.bm H')
theorem Fr.m {x : List Addr} {ss : SS} {H H' : Hp} (e : Fr ss H H') : Same (hid (ss.M x) H) (hid (ss.M x) H') := hid_sub2 (fun _ h => List.mem_append_right _ (List.mem_append_left _ h)) e
/-! ### expressions -/
/-- values one by one -/
def Hold (H : Hp) : List V → List Ty → Prop
  | [], [] => True
  | v :: vs, t :: ts => t.holds v H ∧ Hold H vs ts
  | _, _ => False
section
variable (H0 : Hp) (x : List Addr) (ss : SS)
def Ev (te : TE) (Φ : Ty → Prop) : Prop := ∀ σ H, Sat H0 x ss σ H → ∀ Q : VK, (∀ t v H', Φ t → Sat H0 x ss σ H' → Fr ss H H' → t.holds v (hid (ss.M x) H') → Q v H') → te σ H Q
abbrev EvD (te : TE) (t : Ty) : Prop := Ev H0 x ss te (fun u => u = t)
def EvT (tt : TT) (Φ : Bool → Prop) : Prop := ∀ σ H, Sat H0 x ss σ H → ∀ Q : Bool → Hp → Prop, (∀ b H', Φ b → Sat H0 x ss σ H' → Fr ss H H' → Q b H') → tt σ H Q
abbrev EtD (tt : TT) (b : Bool) : Prop := EvT H0 x ss tt (fun u => u = b)
def EvA (ta : TA) (Φ : List Ty → Prop) : Prop := ∀ σ H, Sat H0 x ss σ H → ∀ Q : List V → Hp → Prop, (∀ ts vs H', Φ ts → Sat H0 x ss σ H' → Fr ss H H' → Hold (hid (ss.M x) H') vs ts → Q vs H') → ta σ H Q
abbrev EaD (ta : TA) (ts : List Ty) : Prop := EvA H0 x ss ta (fun u => u = ts)
end
theorem Hold.mono {H H' : Hp} (e : Same H H') : ∀ {vs : List V} {ts : List Ty}, Hold H vs ts → Hold H' vs ts
  | [], [], _ => trivial
  | _ :: _, _ :: _, h => ⟨Ty.mono e h.1, Hold.mono e h.2⟩
  | [], _ :: _, h => h.elim
  | _ :: _, [], h => h.elim
theorem Hold.len {H : Hp} : ∀ {vs : List V} {ts : List Ty}, Hold H vs ts → vs.length = ts.length
  | [], [], _ => rfl
  | _ :: _, _ :: _, h => congrArg (· + 1) (Hold.len h.2)
  | [], _ :: _, h => h.elim
  | _ :: _, [], h => h.elim

section
variable {H0 : Hp} {x : List Addr} {ss : SS} {ta tb te : TE} {t u : Ty} {Φ Φ1 Φ2 : Ty → Prop}
theorem Ev.imp (h : Ev H0 x ss te Φ1) (k : ∀ t, Φ1 t → Φ t) : Ev H0 x ss te Φ := fun σ H S Q q => h σ H S Q fun t v H' p => q t v H' (k t p)
theorem Ev.eq (h : EvD H0 x ss te t) (e : t = u) : EvD H0 x ss te u := by
  rw [← e]
  exact h
theorem EvT.imp {tt : TT} {Φ Ψ : Bool → Prop} (h : EvT H0 x ss tt Φ) (k : ∀ t, Φ t → Ψ t) : EvT H0 x ss tt Ψ := fun σ H S Q q => h σ H S Q fun t H' p => q t H' (k t p)
theorem EvT.eq {tt : TT} {a b : Bool} (h : EtD H0 x ss tt a) (e : a = b) : EtD H0 x ss tt b := by
  rw [← e]
  exact h
theorem ev_var {i : Nat} (h : ss.g[i]? = some t) (n : t ≠ .any := by exact fun q => nomatch q) : EvD H0 x ss (tVar i) t := fun σ H S Q q => by
  rcases S.vr i t h with z | ⟨v, h1, h2⟩
  · exact absurd z n
  · exact ⟨v, h1, q t v H rfl S (Same.refl _) h2⟩
theorem ev_int {n : Int} : EvD H0 x ss (tC (.int n)) (.im (.int n)) := fun σ H S Q q => q _ _ H rfl S (Same.refl _) (.int n)
theorem ev_str {n : Str} : EvD H0 x ss (tC (.str n)) (.im (.str n)) := fun σ H S Q q => q _ _ H rfl S (Same.refl _) (.str n)
theorem ev_bl {n : Bool} : EvD H0 x ss (tC (.bl n)) (.im (.bool n)) := fun σ H S Q q => q _ _ H rfl S (Same.refl _) (.bl n)
theorem ev_non : EvD H0 x ss (tC .non) (.im .none) := fun σ H S Q q => q _ _ H rfl S (Same.refl _) .non
/-- an operation on two values that makes at most new objects -/
def RV (r : R2) (t u : Ty) (Φ : Ty → Prop) : Prop := ∀ (M : List Addr) (a b : V) (H : Hp), Trk M H → t.holds a (hid M H) → u.holds b (hid M H) → ∀ Q : VK, (∀ w v H', Φ w → Same H H' → w.holds v (hid M H') → Q v H') → r a b H Q
abbrev RD (r : R2) (t u w : Ty) : Prop := RV r t u (fun z => z = w)
theorem ev_op {r : R2} (ha : Ev H0 x ss ta Φ1) (hb : Ev H0 x ss tb Φ2) (hr : ∀ t u, Φ1 t → Φ2 u → RV r t u Φ) : Ev H0 x ss (tOp r ta tb) Φ := fun σ H S Q q =>
  ha σ H S _ fun t1 v1 H1 p1 S1 e1 h1 => hb σ H1 S1 _ fun t2 v2 H2 p2 S2 e2 h2 => hr t1 t2 p1 p2 (ss.M x) v1 v2 H2 S2.trk (Ty.mono (Fr.m e2) h1) h2 Q fun w v H3 p3 e3 h3 =>
    q w v H3 p3 (S2.pure e3) ((e1.trans e2).trans (hid_mono e3)) h3
theorem ev_opD {r : R2} {w : Ty} (ha : EvD H0 x ss ta t) (hb : EvD H0 x ss tb u) (hr : RD r t u w) : EvD H0 x ss (tOp r ta tb) w := ev_op ha hb fun _ _ e1 e2 => by
  subst e1 e2
  exact hr
def RU1 (r : V → Hp → VK → Prop) (t : Ty) (Φ : Ty → Prop) : Prop := ∀ (M : List Addr) (a : V) (H : Hp), Trk M H → t.holds a (hid M H) → ∀ Q : VK, (∀ w v H', Φ w → Same H H' → w.holds v (hid M H') → Q v H') → r a H Q
theorem ev_un {r : V → Hp → VK → Prop} (ha : Ev H0 x ss ta Φ1) (hr : ∀ t, Φ1 t → RU1 r t Φ) : Ev H0 x ss (tUn r ta) Φ := fun σ H S Q q =>
  ha σ H S _ fun t1 v1 H1 p1 S1 e1 h1 => hr t1 p1 (ss.M x) v1 H1 S1.trk h1 Q fun w v H3 p3 e3 h3 => q w v H3 p3 (S1.pure e3) (e1.trans (hid_mono e3)) h3
/-- arguments -/
theorem ea_nil : EaD H0 x ss tNil [] := fun σ H S Q q => q [] [] H rfl S (Same.refl _) trivial
theorem ea_cons {tr : TA} {ts : List Ty} (h : EvD H0 x ss te t) (hr : EaD H0 x ss tr ts) : EaD H0 x ss (tCons te tr) (t :: ts) := fun σ H S Q q =>
  h σ H S _ fun t1 v1 H1 p1 S1 e1 h1 => hr σ H1 S1 _ fun t2 v2 H2 p2 S2 e2 h2 => by
    subst p1 p2
    exact q _ (v1 :: v2) H2 rfl S2 (e1.trans e2) ⟨Ty.mono (Fr.m e2) h1, h2⟩
theorem ea_consP {tr : TA} {Ψ : List Ty → Prop} (h : Ev H0 x ss te Φ) (hr : EvA H0 x ss tr Ψ) : EvA H0 x ss (tCons te tr) (fun ts => ∃ t r, ts = t :: r ∧ Φ t ∧ Ψ r) := fun σ H S Q q =>
  h σ H S _ fun t1 v1 H1 p1 S1 e1 h1 => hr σ H1 S1 _ fun t2 v2 H2 p2 S2 e2 h2 => q (t1 :: t2) (v1 :: v2) H2 ⟨t1, t2, rfl, p1, p2⟩ S2 (e1.trans e2) ⟨Ty.mono (Fr.m e2) h1, h2⟩
theorem EvA.imp {ta : TA} {Φ Ψ : List Ty → Prop} (h : EvA H0 x ss ta Φ) (k : ∀ t, Φ t → Ψ t) : EvA H0 x ss ta Ψ := fun σ H S Q q => h σ H S Q fun t v H' p => q t v H' (k t p)

theorem hold_dps {H : Hp} : ∀ {vs : List V} {ds : List PyData}, Hold H vs (ds.map Ty.im) → DqAll H vs ds
  | [], [], _ => .nil
  | _ :: _, _ :: _, h => .cons h.1 (hold_dps h.2)
  | [], _ :: _, h => h.elim
  | _ :: _, [], h => h.elim
/-- displays -/
theorem ev_tup {ta : TA} {ds : List PyData} (h : EaD H0 x ss ta (ds.map Ty.im)) (hl : ds.length ≤ 100000 := by first | decide | (simp only [List.length_cons, List.length_nil]; decide)) : EvD H0 x ss (tTup ta) (.im (.tuple ds)) := fun σ H S Q q =>
  h σ H S _ fun ts vs H1 p1 S1 e1 h1 => by
    subst p1
    have hd := hold_dps h1
    refine ⟨by rw [dps_len hd]; exact Nat.le_trans hl (by decide), fun p hp => ?_⟩
    have e2 : Same H1 (upd H1 p (.tup vs)) := same_new hp
    exact q _ _ _ rfl (S1.pure e2) (e1.trans (hid_mono e2)) (.tup (hid_new S1.trk hp) (dps_mono (hid_mono e2) hd))
theorem ev_lst {ta : TA} {ds : List PyData} (h : EaD H0 x ss ta (ds.map Ty.im)) (hl : ds.length ≤ 100000 := by first | decide | (simp only [List.length_cons, List.length_nil]; decide)) : EvD H0 x ss (tLst ta) (.im (.list ds)) := fun σ H S Q q =>
  h σ H S _ fun ts vs H1 p1 S1 e1 h1 => by
    subst p1
    have hd := hold_dps h1
    refine ⟨by rw [dps_len hd]; exact Nat.le_trans hl (by decide), fun p hp => ?_⟩
    have e2 : Same H1 (upd H1 p (.lst vs)) := same_new hp
    exact q _ _ _ rfl (S1.pure e2) (e1.trans (hid_mono e2)) (.lst (hid_new S1.trk hp) (dps_mono (hid_mono e2) hd))
/-- the same, the items drawn -/
theorem ev_tupP {ta : TA} {Ψ : List Ty → Prop} (h : EvA H0 x ss ta Ψ) (k : ∀ ts, Ψ ts → ∃ ds : List PyData, ts = ds.map Ty.im ∧ ds.length ≤ 100000 ∧ Φ (.im (.tuple ds))) : Ev H0 x ss (tTup ta) Φ := fun σ H S Q q =>
  h σ H S _ fun ts vs H1 p1 S1 e1 h1 => by
    obtain ⟨ds, rfl, hl, hΦ⟩ := k ts p1
    have hd := hold_dps h1
    refine ⟨by rw [dps_len hd]; exact Nat.le_trans hl (by decide), fun p hp => ?_⟩
    have e2 : Same H1 (upd H1 p (.tup vs)) := same_new hp
    exact q _ _ _ hΦ (S1.pure e2) (e1.trans (hid_mono e2)) (.tup (hid_new S1.trk hp) (dps_mono (hid_mono e2) hd))
/-- if-expressions and tests -/
theorem ev_if {c : TT} {Ψ : Bool → Prop} (h : EvT H0 x ss c Ψ) (h1 : Ψ true → Ev H0 x ss ta Φ) (h2 : Ψ false → Ev H0 x ss tb Φ) : Ev H0 x ss (tIf c ta tb) Φ := fun σ H S Q q =>
  h σ H S _ fun b H1 p1 S1 e1 => by
    cases b with
    | true =>
      rw [if_pos rfl]
      exact h1 p1 σ H1 S1 Q fun t v H2 p S2 e2 r => q t v H2 p S2 (e1.trans e2) r
    | false =>
      rw [if_neg Bool.false_ne_true]
      exact h2 p1 σ H1 S1 Q fun t v H2 p S2 e2 r => q t v H2 p S2 (e1.trans e2) r
theorem et_test {b : Bool} (h : EvD H0 x ss te (.im (.bool b))) : EtD H0 x ss (tTest te) b := fun σ H S Q q =>
  h σ H S _ fun t v H1 p1 S1 e1 r => by
    subst p1
    cases r
    exact ⟨b, rfl, q b H1 rfl S1 e1⟩
theorem et_testP {Ψ : Bool → Prop} (h : Ev H0 x ss te Φ) (k : ∀ t, Φ t → ∃ b, t = .im (.bool b) ∧ Ψ b) : EvT H0 x ss (tTest te) Ψ := fun σ H S Q q =>
  h σ H S _ fun t v H1 p1 S1 e1 r => by
    obtain ⟨b, rfl, hb⟩ := k t p1
    cases r
    exact ⟨b, rfl, q b H1 hb S1 e1⟩
theorem et_B {b : Bool} (h : EvD H0 x ss te (.im (.bool b))) : EtD H0 x ss (tB te) b := et_test h
theorem et_not {c : TT} {b : Bool} (h : EtD H0 x ss c b) : EtD H0 x ss (tNot c) (!b) := fun σ H S Q q =>
  h σ H S _ fun b1 H1 p1 S1 e1 => q _ H1 (by rw [p1]) S1 e1
theorem et_and {c d : TT} {a b : Bool} (h1 : EtD H0 x ss c a) (h2 : a = true → EtD H0 x ss d b) : EtD H0 x ss (tAnd c d) (a && b) := fun σ H S Q q =>
  h1 σ H S _ fun b1 H1 p1 S1 e1 => by
    subst p1
    cases b1 with
    | true =>
      rw [if_pos rfl]
      exact h2 rfl σ H1 S1 Q fun b2 H2 p2 S2 e2 => q b2 H2 p2 S2 (e1.trans e2)
    | false =>
      rw [if_neg Bool.false_ne_true]
      exact q _ H1 rfl S1 e1
theorem et_or {c d : TT} {a b : Bool} (h1 : EtD H0 x ss c a) (h2 : a = false → EtD H0 x ss d b) : EtD H0 x ss (tOr c d) (a || b) := fun σ H S Q q =>
  h1 σ H S _ fun b1 H1 p1 S1 e1 => by
    subst p1
    cases b1 with
    | true =>
      rw [if_pos rfl]
      exact q _ H1 rfl S1 e1
    | false =>
      rw [if_neg Bool.false_ne_true]
      exact h2 rfl σ H1 S1 Q fun b2 H2 p2 S2 e2 => q b2 H2 p2 S2 (e1.trans e2)
theorem et_orP {c d : TT} {Ψ1 Ψ2 Ψ : Bool → Prop} (h1 : EvT H0 x ss c Ψ1) (h2 : Ψ1 false → EvT H0 x ss d Ψ) (k : Ψ1 true → Ψ true) : EvT H0 x ss (tOr c d) Ψ := fun σ H S Q q =>
  h1 σ H S _ fun b1 H1 p1 S1 e1 => by
    cases b1 with
    | true =>
      rw [if_pos rfl]
      exact q _ H1 (k p1) S1 e1
    | false =>
      rw [if_neg Bool.false_ne_true]
      exact h2 p1 σ H1 S1 Q fun b2 H2 p2 S2 e2 => q b2 H2 p2 S2 (e1.trans e2)
theorem et_andP {c d : TT} {Ψ1 Ψ : Bool → Prop} (h1 : EvT H0 x ss c Ψ1) (h2 : Ψ1 true → EvT H0 x ss d Ψ) (k : Ψ1 false → Ψ false) : EvT H0 x ss (tAnd c d) Ψ := fun σ H S Q q =>
  h1 σ H S _ fun b1 H1 p1 S1 e1 => by
    cases b1 with
    | true =>
      rw [if_pos rfl]
      exact h2 p1 σ H1 S1 Q fun b2 H2 p2 S2 e2 => q b2 H2 p2 S2 (e1.trans e2)
    | false =>
      rw [if_neg Bool.false_ne_true]
      exact q _ H1 (k p1) S1 e1
theorem ev_orV {a b : Bool} (h1 : EvD H0 x ss ta (.im (.bool a))) (h2 : a = false → EvD H0 x ss tb (.im (.bool b))) : EvD H0 x ss (tOrV ta tb) (.im (.bool (a || b))) := fun σ H S Q q =>
  h1 σ H S _ fun t1 v H1 p1 S1 e1 r => by
    subst p1
    cases r
    refine ⟨a, rfl, ?_⟩
    cases a with
    | true =>
      rw [if_pos rfl]
      exact q _ _ H1 rfl S1 e1 (.bl true)
    | false =>
      rw [if_neg Bool.false_ne_true]
      exact h2 rfl σ H1 S1 Q fun t2 v2 H2 p2 S2 e2 => q t2 v2 H2 p2 S2 (e1.trans e2)
theorem ev_andV {a b : Bool} (h1 : EvD H0 x ss ta (.im (.bool a))) (h2 : a = true → EvD H0 x ss tb (.im (.bool b))) : EvD H0 x ss (tAndV ta tb) (.im (.bool (a && b))) := fun σ H S Q q =>
  h1 σ H S _ fun t1 v H1 p1 S1 e1 r => by
    subst p1
    cases r
    refine ⟨a, rfl, ?_⟩
    cases a with
    | true =>
      rw [if_pos rfl]
      exact h2 rfl σ H1 S1 Q fun t2 v2 H2 p2 S2 e2 => q t2 v2 H2 p2 S2 (e1.trans e2)
    | false =>
      rw [if_neg Bool.false_ne_true]
      exact q _ _ H1 rfl S1 e1 (.bl false)
end

/-! ### calls of defs -/
/-- a def that changes nothing that stood: what it asks of the data, what it hands back -/
def spF (S : List Ty → (Ty → Prop) → Prop) : Sp := fun vs H Q _ => ∃ x ts Φ, S ts Φ ∧ Trk x H ∧ Hold (hid x H) vs ts ∧ ∀ t v H', Φ t → Same H H' → t.holds v (hid x H') → Q v H'
/-- a def that draws from the bag, its first argument -/
def spB (S : List Ty → (Ty → Prop) → Prop) : Sp := fun vs H Q _ => ∃ b c x us ts Φ, vs = .ref b :: us ∧ BagAt H b c ∧ S ts Φ ∧ Trk x H ∧ Hold (hid (b :: x) H) us ts ∧
  ∀ t v H', Φ t → Same (hid [b] H) (hid [b] H') → BagAt H' b c → t.holds v (hid (b :: x) H') → Q v H'
section
variable {H0 : Hp} {x : List Addr} {ss : SS} {ta : TA} {te : TE} {t u : Ty} {Φ : Ty → Prop} {S : List Ty → (Ty → Prop) → Prop} {E : XK}
theorem ev_call {Ψ : List Ty → Prop} (h : EvA H0 x ss ta Ψ) (k : ∀ ts, Ψ ts → ∃ Φ', S ts Φ' ∧ ∀ t, Φ' t → Φ t) : Ev H0 x ss (tCall (spF S) [] E ta) Φ := fun σ H Z Q q =>
  h σ H Z _ fun ts vs H1 p1 S1 e1 r => by
    obtain ⟨Φ', hS, hΦ⟩ := k ts p1
    refine ⟨ss.M x, ts, Φ', hS, S1.trk, ?_, fun t v H2 p2 e2 r2 => q t v H2 (hΦ t p2) (S1.pure e2) (e1.trans (hid_mono e2)) r2⟩
    rw [List.append_nil]
    exact r
theorem ev_callD {ts : List Ty} (h : EaD H0 x ss ta ts) (k : S ts Φ) : Ev H0 x ss (tCall (spF S) [] E ta) Φ := ev_call h fun ts' e => ⟨Φ, by rw [e]; exact k, fun _ p => p⟩
/-- the heap but for the bag is kept -/
theorem Sat.drawn {H H' : Hp} {σ : L2.St} {b c : Addr} (Z : Sat H0 x ss σ H) (hb : ss.b = some (b, c)) (e : Same (hid [b] H) (hid [b] H')) (B : BagAt H' b c) : Sat H0 x ss σ H' ∧ Fr ss H H' := by
  have bm : ss.bm = [b] := by
    unfold SS.bm
    rw [hb]
  have hm : ∀ a ∈ [b], a ∈ ss.M x := fun a h => List.mem_append_right _ (List.mem_append_left _ (by rw [bm]; exact h))
  have e2 := hid_sub2 hm e
  have keep : ∀ a o, a ≠ b → H a = some o → H' a = some o := fun a o n h => by
    have h1 : hid [b] H a = some o := by
      rw [hid_out (by simpa using n)]
      exact h
    exact (hid_some (e a o h1)).2
  obtain ⟨_, hb0, hc0⟩ := Z.bg b c hb
  refine ⟨⟨fun a o n h => ?_, fun q hq => ?_, Z.nd, fun b' c' h => ?_, Z.tx, fun i t h => ?_, Z.ln⟩, by
    show Same (hid ss.bm H) (hid ss.bm H')
    rw [bm]
    exact e⟩
  · refine keep a o (fun z => n ?_) (Z.fr a o n h)
    rw [bm, z]
    exact List.mem_singleton.mpr rfl
  · obtain ⟨h1, h2⟩ := Z.ls q hq
    refine ⟨h1, MO.mono e2 ?_ h2⟩
    cases z : H q.1 with
    | none => exact absurd z (MO.some h2)
    | some o => exact keep _ _ (fun y => hb0 (by rw [← y]; exact h1)) z
  · rw [hb] at h
    cases h
    exact ⟨B, hb0, hc0⟩
  · rcases Z.vr i t h with z | ⟨v, h1, h2⟩
    · exact .inl z
    · exact .inr ⟨v, h1, Ty.mono e2 h2⟩
theorem ev_draw {Ψ : List Ty → Prop} {b c : Addr} (hb : ss.b = some (b, c)) (he : EvD H0 x ss te (.rf b)) (h : EvA H0 x ss ta Ψ) (k : ∀ ts, Ψ ts → ∃ Φ', S ts Φ' ∧ ∀ t, Φ' t → Φ t) : Ev H0 x ss (tCall (spB S) [] E (tCons te ta)) Φ := fun σ H Z Q q =>
  he σ H Z _ fun t0 v0 H1 p0 S1 e1 r0 => h σ H1 S1 _ fun ts vs H2 p1 S2 e2 r => by
    obtain ⟨Φ', hS, hΦ⟩ := k ts p1
    subst p0
    have r0 : v0 = .ref b := r0
    subst r0
    obtain ⟨B, _, _⟩ := S2.bg b c hb
    have bm : ss.bm = [b] := by
      unfold SS.bm
      rw [hb]
    have hm : ∀ a ∈ b :: ss.M x, a ∈ ss.M x := fun a h => by
      rcases List.mem_cons.mp h with h | h
      · rw [h]
        exact List.mem_append_right _ (List.mem_append_left _ (by rw [bm]; exact List.mem_singleton.mpr rfl))
      · exact h
    have hm2 : ∀ a ∈ ss.M x, a ∈ b :: ss.M x := fun a h => List.mem_cons_of_mem _ h
    refine ⟨b, c, ss.M x, vs, ts, Φ', by rw [List.append_nil], B, hS, S2.trk, Hold.mono (hid_sub hm) r, fun t v H3 p3 e3 B3 r3 => ?_⟩
    obtain ⟨S3, e4⟩ := S2.drawn hb e3 B3
    exact q t v H3 (hΦ t p3) S3 ((e1.trans e2).trans e4) (Ty.mono (hid_sub hm2) r3)
end
end Sx
set_option Elab.async false
set_option linter.all false
set_option maxRecDepth 100000
set_option maxHeartbeats 1000000
/-! Statements, loops, comprehensions, a def's beginning and end over symbolic states. -/
namespace Sx
open PySem L2

/-! ### statements -/
def Tr (H0 : Hp) (x : List Addr) (ss : SS) (ts : TS) (D : Ends) : Prop := ∀ σ H, Sat H0 x ss σ H → ts D σ H
section
variable {H0 : Hp} {x : List Addr} {ss : SS} {te : TE} {tu tv u : TS} {D : Ends} {t : Ty} {Φ : Ty → Prop}
theorem tr_next (h : ∀ σ H, Sat H0 x ss σ H → D.nx σ H) : Tr H0 x ss tNext D := h
theorem tr_asg {i : Nat} (hi : i < ss.g.length) (h : Ev H0 x ss te Φ) (k : ∀ t, Φ t → Tr H0 x (ss.st i t) u D) : Tr H0 x ss (tSeq (tAsg te (gName i)) u) D := fun σ H S =>
  h σ H S _ fun t v H1 p S1 e r => k t p _ _ (S1.st hi r)
theorem tr_asgD {i : Nat} (hi : i < ss.g.length) (h : EvD H0 x ss te t) (k : Tr H0 x (ss.st i t) u D) : Tr H0 x ss (tSeq (tAsg te (gName i)) u) D := tr_asg hi h fun t' e => by
  subst e
  exact k
theorem tr_if {c : TT} {Ψ : Bool → Prop} (h : EvT H0 x ss c Ψ) (h1 : Ψ true → Tr H0 x ss tu { D with nx := u D }) (h2 : Ψ false → Tr H0 x ss tv { D with nx := u D }) : Tr H0 x ss (tSeq (tIfS c tu tv) u) D := fun σ H S =>
  h σ H S _ fun b H1 p S1 e => by
    cases b with
    | true =>
      rw [if_pos rfl]
      exact h1 p σ H1 S1
    | false =>
      rw [if_neg Bool.false_ne_true]
      exact h2 p σ H1 S1
theorem tr_ifD {c : TT} {b : Bool} (h : EtD H0 x ss c b) (h1 : b = true → Tr H0 x ss tu { D with nx := u D }) (h2 : b = false → Tr H0 x ss tv { D with nx := u D }) : Tr H0 x ss (tSeq (tIfS c tu tv) u) D :=
  tr_if h (fun e => h1 e.symm) (fun e => h2 e.symm)
theorem tr_drop (h : Ev H0 x ss te Φ) (k : Tr H0 x ss u D) : Tr H0 x ss (tSeq (tDrop te) u) D := fun σ H S =>
  h σ H S _ fun t v H1 p S1 e r => k σ H1 S1
theorem tr_ret (h : Ev H0 x ss te Φ) (k : ∀ σ t v H, Φ t → Sat H0 x ss σ H → t.holds v (hid (ss.M x) H) → D.rt v H) : Tr H0 x ss (tSeq (tRet te) u) D := fun σ H S =>
  h σ H S _ fun t v H1 p S1 e r => k σ t v H1 p S1 r
theorem tr_weak {g : List Ty} (w : Wk ss.g g) (k : Tr H0 x { ss with g := g } u D) : Tr H0 x ss u D := fun σ H S => k σ H (S.weak w)
/-- a word between two statements -/
theorem tr_cut {I : SS → Prop} (h : Tr H0 x ss tu { D with nx := fun σ H => ∃ s, I s ∧ Sat H0 x s σ H }) (k : ∀ s, I s → Tr H0 x s u D) : Tr H0 x ss (C8.tCut tu u) D := fun σ H S => ⟨_, h σ H S, fun σ' H' ⟨s, i, S'⟩ => k s i σ' H' S'⟩
end

/-! ### targets -/
/-- storing a value of the type t by g turns s into s'; only the slots ws are touched -/
def Bd (H0 : Hp) (x : List Addr) (g : TG) (s : SS) (t : Ty) (ws : List Nat) (s' : SS) : Prop := ∀ v σ H (Q : L2.St → Hp → Prop), Sat H0 x s σ H → t.holds v (hid (s.M x) H) →
  (∀ σ', Sat H0 x s' σ' H → (∀ i, i ∉ ws → σ'[i]? = σ[i]?) → σ'.length = σ.length → Q σ' H) → g v σ H Q
def Bds (H0 : Hp) (x : List Addr) (g : TGs) (s : SS) (ts : List PyData) (ws : List Nat) (s' : SS) : Prop := ∀ vs σ H (Q : L2.St → Hp → Prop), Sat H0 x s σ H → DqAll (hid (s.M x) H) vs ts →
  (∀ σ', Sat H0 x s' σ' H → (∀ i, i ∉ ws → σ'[i]? = σ[i]?) → σ'.length = σ.length → Q σ' H) → g vs σ H Q
section
variable {H0 : Hp} {x : List Addr} {s s1 s2 : SS} {t : Ty} {K : PySem.W.Frag}
theorem bd_name {i : Nat} (hi : i < s.g.length) : Bd H0 x (gName i) s t [i] (s.st i t) := fun v σ H Q S h q =>
  q _ (S.st hi h) (fun j n => List.getElem?_set_ne (fun e => n (by rw [e]; exact List.mem_singleton.mpr rfl))) (by rw [List.length_set])
theorem bds_nil : Bds H0 x gNil s [] [] s := fun vs σ H Q S h q => by
  cases h
  exact ⟨rfl, q σ S (fun _ _ => rfl) rfl⟩
theorem bds_cons {g : TG} {gs : TGs} {d : PyData} {ds : List PyData} {ws us : List Nat} (h : Bd H0 x g s (.im d) ws s1) (k : Bds H0 x gs s1 ds us s2) (hM : s1.M x = s.M x := by rfl) : Bds H0 x (gCons g gs) s (d :: ds) (ws ++ us) s2 := fun vs σ H Q S r q => by
  cases r with
  | cons r1 r2 =>
    refine ⟨_, _, rfl, h _ σ H _ S r1 fun σ1 S1 e1 l1 => ?_⟩
    refine k _ σ1 H Q S1 (by rw [hM]; exact r2) fun σ2 S2 e2 l2 => q σ2 S2 (fun i n => ?_) (l2.trans l1)
    rw [e2 i fun m => n (List.mem_append_right _ m), e1 i fun m => n (List.mem_append_left _ m)]
theorem bd_tup {gs : TGs} {ds : List PyData} {ws : List Nat} {n : Nat} (h : Bds H0 x gs s ds ws s1) (hn : ds.length = n := by rfl) : Bd H0 x (gTup K n gs) s (.im (.tuple ds)) ws s1 := fun v σ H Q S r q => by
  cases r with
  | tup r1 r2 => exact ⟨_, _, rfl, Or.inl (Or.inl ((hid_some r1).2)), (dps_len r2).trans hn, h _ σ H Q S r2 q⟩
theorem tr_asgT {te : TE} {g : TG} {u : TS} {D : Ends} {Φ : Ty → Prop} (h : Ev H0 x s te Φ) (k : ∀ t, Φ t → ∃ ws s', Bd H0 x g s t ws s' ∧ Tr H0 x s' u D) : Tr H0 x s (tSeq (tAsg te g) u) D := fun σ H S =>
  h σ H S _ fun t v H1 p S1 e r => by
    obtain ⟨ws, s', hb, ht⟩ := k t p
    exact hb v σ H1 _ S1 r fun σ' S' _ _ => ht σ' H1 S'
theorem tr_asgTD {te : TE} {g : TG} {u : TS} {D : Ends} {t : Ty} {ws : List Nat} {s' : SS} (h : EvD H0 x s te t) (b : Bd H0 x g s t ws s') (k : Tr H0 x s' u D) : Tr H0 x s (tSeq (tAsg te g) u) D := tr_asgT h fun t' e => by
  subst e
  exact ⟨ws, s', b, k⟩
end

/-! ### a later base -/
/-- H1 is a later base: what stood in H0 (but for the bag) stands there as it was -/
structure Bs (x : List Addr) (b : Option (Addr × Addr)) (H0 H1 : Hp) : Prop where
  fr : ∀ a o, (∀ c, b ≠ some (a, c)) → H0 a = some o → H1 a = some o
  bg : ∀ p c, b = some (p, c) → H0 p ≠ none ∧ H0 c ≠ none
  tx : Trk x H0
theorem bm_iff {ss : SS} {a : Addr} : a ∈ ss.bm ↔ ∃ c, ss.b = some (a, c) := by
  unfold SS.bm
  constructor
  · intro h
    split at h
    · cases h
    · next p c e => exact ⟨c, by rw [List.mem_singleton.mp h, e]⟩
  · rintro ⟨c, h⟩
    rw [h]
    exact List.mem_singleton.mpr rfl
section
variable {H0 H1 H H' : Hp} {x : List Addr} {ss s : SS} {σ : L2.St}
theorem Bs.refl (S : Sat H0 x ss σ H) : Bs x ss.b H0 H0 := ⟨fun _ _ _ h => h, fun p c e => (S.bg p c e).2, S.tx⟩
/-- back to the older base -/
theorem Sat.back (S : Sat H1 x s σ H) (B : Bs x ss.b H0 H1) (hb : s.b = ss.b) : Sat H0 x s σ H where
  fr := fun a o n h => S.fr a o n (B.fr a o (fun c e => n (bm_iff.mpr ⟨c, hb.trans e⟩)) h)
  ls := fun q hq => by
    obtain ⟨h1, h2⟩ := S.ls q hq
    refine ⟨?_, h2⟩
    cases z : H0 q.1 with
    | none => rfl
    | some o =>
      by_cases e : ∃ c, ss.b = some (q.1, c)
      · obtain ⟨c, e⟩ := e
        exact absurd h1 (S.bg _ _ (hb.trans e)).2.1
      · rw [B.fr q.1 o (fun c y => e ⟨c, y⟩) z] at h1
        cases h1
  nd := S.nd
  bg := fun p c e => ⟨(S.bg p c e).1, B.bg p c (hb ▸ e)⟩
  tx := B.tx
  vr := S.vr
  ln := S.ln
/-- the heap as it stands becomes the base -/
theorem Sat.now (S : Sat H0 x ss σ H) : Sat (hid (ss.l.map (·.1)) H) x ss σ H ∧ Bs x ss.b H0 (hid (ss.l.map (·.1)) H) := by
  have nl : ∀ a, H0 a ≠ none → a ∉ ss.l.map (·.1) := fun a h m => by
    obtain ⟨q, hq, e⟩ := List.mem_map.mp m
    exact h (e ▸ (S.ls q hq).1)
  have keep : ∀ a, a ∉ ss.l.map (·.1) → H a ≠ none → hid (ss.l.map (·.1)) H a ≠ none := fun a n h => by
    rw [hid_out n]
    exact h
  refine ⟨⟨fun a o _ h => (hid_some h).2, fun q hq => ⟨hid_in (List.mem_map.mpr ⟨q, hq, rfl⟩), (S.ls q hq).2⟩, S.nd, fun p c e => ?_, fun a ha => ?_, S.vr, S.ln⟩, ⟨fun a o n h => ?_, fun p c e => (S.bg p c e).2, S.tx⟩⟩
  · obtain ⟨h1, h2, h3⟩ := S.bg p c e
    obtain ⟨_, _, _, _, _, e1, e2, _⟩ := id h1
    exact ⟨h1, keep p (nl p h2) (by rw [e1]; exact fun q => nomatch q), keep c (nl c h3) (by rw [e2]; exact fun q => nomatch q)⟩
  · obtain ⟨o, h0, n⟩ := S.tx a ha
    obtain ⟨u, h1, n1⟩ := S.trk a (List.mem_append_right _ (List.mem_append_right _ ha))
    refine ⟨u, ?_, n1⟩
    rw [hid_out (nl a (by rw [h0]; exact fun q => (nomatch q)))]
    exact h1
  · rw [hid_out (nl a (by rw [h]; exact fun q => nomatch q))]
    exact S.fr a o (fun m => (bm_iff.mp m).elim n) h
theorem Bs.trans {b : Option (Addr × Addr)} {H2 : Hp} (a : Bs x b H0 H1) (c : Bs x b H1 H2) : Bs x b H0 H2 := ⟨fun p o n h => c.fr p o n (a.fr p o n h), a.bg, a.tx⟩
/-- what stood beside the hidden ones at the base's making is seen -/
theorem Sat.seen (S' : Sat (hid (ss.l.map (·.1)) H) x s σ H1) (hb : s.b = ss.b) : Same (hid (ss.M x) H) (hid (s.M x) H1) := fun a o h => by
  obtain ⟨n, h⟩ := hid_some h
  have nl : a ∉ ss.l.map (·.1) := fun m => n (List.mem_append_left _ m)
  have nb : a ∉ ss.bm := fun m => n (List.mem_append_right _ (List.mem_append_left _ m))
  have nx : a ∉ x := fun m => n (List.mem_append_right _ (List.mem_append_right _ m))
  have h0 : hid (ss.l.map (·.1)) H a = some o := by
    rw [hid_out nl]
    exact h
  have nb' : a ∉ s.bm := fun m => nb (by
    obtain ⟨c, e⟩ := bm_iff.mp m
    exact bm_iff.mpr ⟨c, hb ▸ e⟩)
  have h1 := S'.fr a o nb' h0
  rw [hid_out fun m => ?_]
  · exact h1
  · rcases List.mem_append.mp m with m | m
    · obtain ⟨q, hq, e⟩ := List.mem_map.mp m
      have := (S'.ls q hq).1
      rw [e, h0] at this
      cases this
    · rcases List.mem_append.mp m with m | m
      · exact nb' m
      · exact nx m
end

/-! ### what is walked -/
def Src (H0 : Hp) (x : List Addr) (ss : SS) (wi : TI) (n : Nat) (ty : Nat → Ty) : Prop := ∀ σ H, Sat H0 x ss σ H → ∀ R : It → Hp → Prop,
  (∀ J H' Y, Sat H0 x ss σ H' → Fr ss H H' → Walk J n (fun H1 => Same (hid (ss.M x) H') H1) Y →
    (∀ i H1 v H2 M2, i < n → Same (hid (ss.M x) H') (hid M2 H1) → Trk M2 H1 → Y i H1 v H2 → Same H1 H2 ∧ (ty i).holds v (hid M2 H2)) → R J H') → wi σ H R
section
variable {H0 : Hp} {x : List Addr} {ss : SS} {te : TE} {ta : TA} {K : PySem.W.Frag}
/-- over a tuple, a list -/
theorem src_tup {ds : List PyData} (h : EvD H0 x ss te (.im (.tuple ds))) : Src H0 x ss (iTup K te) ds.length (fun i => .im (ds.getD i .none)) := fun σ H S R r =>
  h σ H S _ fun t v H1 p S1 e q => by
    subst p
    cases q with
    | tup q1 q2 =>
      rename_i a vs
      have hn : vs.length = ds.length := dps_len q2
      refine ⟨a, rfl, ⟨vs, .inl (.inl (hid_some q1).2)⟩, ?_⟩
      refine r (Itt K a) H1 (YAt vs) S1 e (by rw [← hn]; exact (walk_tup (K := K) (a := a) (xs := vs)).mono (fun H2 g => .inl (.inl (g _ _ q1))) fun i H2 z H3 _ _ y => y) fun i H2 v H3 M2 hi s3 T y => ?_
      obtain ⟨rfl, hv⟩ := y
      refine ⟨Same.refl _, ?_⟩
      obtain ⟨d, h1, h2⟩ := dps_get q2 hv
      show Dq _ v (ds.getD i .none)
      rw [List.getD_eq_getElem?_getD, h1]
      exact dp_mono s3 h2
theorem src_list {ds : List PyData} (h : EvD H0 x ss te (.im (.list ds))) : Src H0 x ss (iList K te) ds.length (fun i => .im (ds.getD i .none)) := fun σ H S R r =>
  h σ H S _ fun t v H1 p S1 e q => by
    subst p
    cases q with
    | lst q1 q2 =>
      rename_i a vs
      have hn : vs.length = ds.length := dps_len q2
      refine ⟨a, rfl, ⟨vs, .inl (.inl (hid_some q1).2)⟩, ?_⟩
      refine r (Itl K a) H1 (YAt vs) S1 e (by rw [← hn]; exact (walk_list (K := K) (a := a) (xs := vs)).mono (fun H2 g => .inl (.inl (g _ _ q1))) fun i H2 z H3 _ _ y => y) fun i H2 v H3 M2 hi s3 T y => ?_
      obtain ⟨rfl, hv⟩ := y
      refine ⟨Same.refl _, ?_⟩
      obtain ⟨d, h1, h2⟩ := dps_get q2 hv
      show Dq _ v (ds.getD i .none)
      rw [List.getD_eq_getElem?_getD, h1]
      exact dp_mono s3 h2
/-- a source that is drawn: some list of data -/
def SrcP (H0 : Hp) (x : List Addr) (ss : SS) (wi : TI) (Φ : Nat → (Nat → Ty) → Prop) : Prop := ∀ σ H, Sat H0 x ss σ H → ∀ R : It → Hp → Prop,
  (∀ n ty J H' Y, Φ n ty → Sat H0 x ss σ H' → Fr ss H H' → Walk J n (fun H1 => Same (hid (ss.M x) H') H1) Y →
    (∀ i H1 v H2 M2, i < n → Same (hid (ss.M x) H') (hid M2 H1) → Trk M2 H1 → Y i H1 v H2 → Same H1 H2 ∧ (ty i).holds v (hid M2 H2)) → R J H') → wi σ H R
theorem Src.p {wi : TI} {n : Nat} {ty : Nat → Ty} (h : Src H0 x ss wi n ty) : SrcP H0 x ss wi (fun m uy => m = n ∧ uy = ty) := fun σ H S R r =>
  h σ H S R fun J H' Y S' e w y => r n ty J H' Y ⟨rfl, rfl⟩ S' e w y
theorem srcP_list {Φ : Ty → Prop} {Ψ : Nat → (Nat → Ty) → Prop} (h : Ev H0 x ss te Φ) (k : ∀ t, Φ t → ∃ ds, t = .im (.list ds) ∧ Ψ ds.length (fun i => .im (ds.getD i .none))) : SrcP H0 x ss (iList K te) Ψ := fun σ H S R r =>
  h σ H S _ fun t v H1 p S1 e q => by
    obtain ⟨ds, rfl, hΨ⟩ := k t p
    cases q with
    | lst q1 q2 =>
      rename_i a vs
      have hn : vs.length = ds.length := dps_len q2
      refine ⟨a, rfl, ⟨vs, .inl (.inl (hid_some q1).2)⟩, ?_⟩
      refine r _ _ (Itl K a) H1 (YAt vs) hΨ S1 e (by rw [← hn]; exact (walk_list (K := K) (a := a) (xs := vs)).mono (fun H2 g => .inl (.inl (g _ _ q1))) fun i H2 z H3 _ _ y => y) fun i H2 v H3 M2 hi s3 T y => ?_
      obtain ⟨rfl, hv⟩ := y
      refine ⟨Same.refl _, ?_⟩
      obtain ⟨d, h1, h2⟩ := dps_get q2 hv
      show Dq _ v (ds.getD i .none)
      rw [List.getD_eq_getElem?_getD, h1]
      exact dp_mono s3 h2
theorem srcP_rng1 {Φ : List Ty → Prop} {Ψ : Nat → (Nat → Ty) → Prop} (h : EvA H0 x ss ta Φ) (k : ∀ ts, Φ ts → ∃ n : Int, ts = [.im (.int n)] ∧ n ≤ 1000000 ∧ -1000000 ≤ n ∧ Ψ n.toNat (fun i => .im (.int (i : Nat)))) : SrcP H0 x ss (iRng1 ta) Ψ := fun σ H S R r =>
  h σ H S _ fun ts vs H1 p S1 e q => by
    obtain ⟨n, rfl, h1, h2, hΨ⟩ := k ts p
    match vs, q with
    | [v], q =>
      cases q.1
      refine ⟨n, rfl, by omega, by omega, ?_⟩
      refine r _ _ (Itr 0 n.toNat) H1 (YFn fun i => .int ((0 : Int) + i)) hΨ S1 e (walk_range.mono (fun _ _ => trivial) fun i H2 z H3 _ _ y => y) fun i H2 v H3 M2 hi s3 T y => ?_
      obtain ⟨rfl, rfl⟩ := y
      refine ⟨Same.refl _, ?_⟩
      show Dq _ (.int ((0 : Int) + i)) (.int (i : Nat))
      rw [Int.zero_add]
      exact .int _
theorem src_rng1 {n : Int} (h : EaD H0 x ss ta [.im (.int n)]) (h1 : n ≤ 1000000) (h2 : -1000000 ≤ n) : Src H0 x ss (iRng1 ta) n.toNat (fun i => .im (.int (i : Nat))) := fun σ H S R r =>
  srcP_rng1 (Ψ := fun m ty => m = n.toNat ∧ ty = fun i => .im (.int (i : Nat))) h (fun ts e => ⟨n, e, h1, h2, rfl, rfl⟩) σ H S R fun m ty J H' Y p S' e w y => by
    obtain ⟨rfl, rfl⟩ := p
    exact r J H' Y S' e w y
theorem src_rng2 {m n : Int} (h : EaD H0 x ss ta [.im (.int m), .im (.int n)]) (hm : m ≤ 1000000 ∧ -1000000 ≤ m) (h1 : n ≤ 1000000) (h2 : -1000000 ≤ n) : Src H0 x ss (iRng2 ta) (n - m).toNat (fun i => .im (.int (m + (i : Nat)))) := fun σ H S R r =>
  h σ H S _ fun ts vs H1 p S1 e q => by
    subst p
    match vs, q with
    | [v, w], q =>
      cases q.1
      cases q.2.1
      refine ⟨m, n, rfl, by omega, ?_⟩
      refine r (Itr m (n - m).toNat) H1 (YFn fun i => .int (m + i)) S1 e (walk_range.mono (fun _ _ => trivial) fun i H2 z H3 _ _ y => y) fun i H2 v H3 M2 hi s3 T y => ?_
      obtain ⟨rfl, rfl⟩ := y
      exact ⟨Same.refl _, .int _⟩
theorem src_enum {ds : List PyData} (h : EaD H0 x ss ta [.im (.list ds)]) : Src H0 x ss (iEnum K ta) ds.length (fun i => .im (.tuple [.int (i : Nat), ds.getD i .none])) := fun σ H S R r =>
  h σ H S _ fun ts vs H1 p S1 e q => by
    subst p
    match vs, q with
    | [v], q =>
      have q0 : Dq _ v (.list ds) := q.1
      cases q0 with
      | lst q1 q2 =>
        rename_i a us
        have hn : us.length = ds.length := dps_len q2
        refine ⟨a, us, rfl, .inl (.inl (hid_some q1).2), ?_⟩
        refine r (Ite K a) H1 (YPair (fun i => some (.int (i : Nat))) (fun i => us[i]?)) S1 e (by rw [← hn]; exact (walk_enum (K := K) (a := a) (xs := us)).mono (fun H2 g => .inl (.inl (g _ _ q1))) fun i H2 z H3 _ _ y => y) fun i H2 v H3 M2 hi s3 T y => ?_
        obtain ⟨T', y1, y2, rfl, hT, rfl, e1, e2⟩ := y
        obtain ⟨d, h1, h2⟩ := dps_get q2 e2
        cases e1
        refine ⟨same_new hT, .tup (hid_new T hT) (.cons (.int _) (.cons ?_ .nil))⟩
        rw [List.getD_eq_getElem?_getD, h1]
        exact dp_mono (s3.trans (hid_mono (same_new hT))) h2
end

/-! ### loops -/
section
variable {H0 : Hp} {x : List Addr} {ss : SS} {wi : TI} {g : TG} {tb u : TS} {D : Ends}
/-- the state is one of the word's -/
def Nx (H0 : Hp) (x : List Addr) (I : SS → Prop) : L2.St → Hp → Prop := fun σ H => ∃ s, I s ∧ Sat H0 x s σ H
theorem tr_for {Ψ : Nat → (Nat → Ty) → Prop} (hs : SrcP H0 x ss wi Ψ) (I : (Nat → Ty) → Nat → SS → Prop) (h0 : ∀ n ty, Ψ n ty → I ty 0 ss) (hb : ∀ ty i s, I ty i s → s.b = ss.b)
    (step : ∀ n ty, Ψ n ty → ∀ H1, Bs x ss.b H0 H1 → ∀ i s, i < n → I ty i s → ∃ ws s', Bd H1 x g s (ty i) ws s' ∧ Tr H1 x s' tb { D with nx := Nx H1 x (I ty (i + 1)), ct := Nx H1 x (I ty (i + 1)), bk := u D })
    (done : ∀ n ty, Ψ n ty → ∀ s, I ty n s → Tr H0 x s u D) : Tr H0 x ss (tSeq (tFor wi g tb) u) D := fun σ H S =>
  hs σ H S _ fun n ty J H' Y p S1 e w y => by
    obtain ⟨S2, B⟩ := S1.now
    refine for_it w (fun i σ H2 => Nx (hid (ss.l.map (·.1)) H') x (I ty i) σ H2) ⟨ss, h0 n ty p, S2⟩ (fun i σ H2 _ q => ?_) (fun i v σ1 H2 H3 hi q yy => ?_) fun σ1 H2 q => ?_
    · obtain ⟨s, hI, S3⟩ := q
      exact (S3.seen (hb ty i s hI)).trans same_hid
    · obtain ⟨s, hI, S3⟩ := q
      obtain ⟨e3, hv⟩ := y i H2 v H3 (s.M x) hi (S3.seen (hb ty i s hI)) S3.trk yy
      obtain ⟨ws, s', hB, hT⟩ := step n ty p _ B i s hi hI
      exact hB v σ1 H3 _ (S3.pure e3) hv fun σ' S4 _ _ => hT σ' H3 S4
    · obtain ⟨s, hI, S3⟩ := q
      exact done n ty p s hI σ1 H2 (S3.back B (hb ty n s hI))
/-- a while: by a word with a measure -/
theorem tr_while {c : TT} (I : Nat → SS → Prop) (m0 : Nat) (h0 : I m0 ss) (hb : ∀ m s, I m s → s.b = ss.b)
    (step : ∀ H1, Bs x ss.b H0 H1 → ∀ m s, I m s → ∃ Ψ : Bool → Prop, EvT H1 x s c Ψ ∧ (Ψ true → Tr H1 x s tb { D with nx := Nx H1 x (fun s' => ∃ m', m' < m ∧ I m' s'), ct := Nx H1 x (fun s' => ∃ m', m' < m ∧ I m' s'), bk := u D }) ∧ (Ψ false → Tr H1 x s u D)) :
    Tr H0 x ss (tSeq (tWhile c tb) u) D := fun σ H S => by
  have B := Bs.refl S
  refine ⟨fun m σ H => Nx H0 x (I m) σ H, ⟨m0, ss, h0, S⟩, fun m σ1 H1 q => ?_⟩
  obtain ⟨s, hI, S1⟩ := q
  obtain ⟨Ψ, ht, h1, h2⟩ := step H0 B m s hI
  refine ht σ1 H1 S1 _ fun b H2 p S2 e => ?_
  cases b with
  | true =>
    rw [if_pos rfl]
    refine ⟨_, fun σ' H' n => ?_, h1 p σ1 H2 S2⟩
    obtain ⟨s', ⟨m', hm, hI'⟩, S'⟩ := n
    exact ⟨m', hm, s', hI', S'⟩
  | false =>
    rw [if_neg Bool.false_ne_true]
    exact h2 p σ1 H2 S2
end

/-! ### comprehensions -/
/-- the slots of a block's own names forgotten -/
def wipeT (g : List Ty) : List Nat → List Ty
  | [] => g
  | v :: vs => (wipeT g vs).set v .any
section
variable {H0 H H' : Hp} {x : List Addr} {ss : SS} {σ : L2.St}
theorem wipeT_len (g : List Ty) : ∀ vs : List Nat, (wipeT g vs).length = g.length
  | [] => rfl
  | v :: vs => by
    show ((wipeT g vs).set v .any).length = _
    rw [List.length_set, wipeT_len g vs]
theorem wipeT_get {g : List Ty} {i : Nat} {t : Ty} : ∀ {vs : List Nat}, (wipeT g vs)[i]? = some t → t = .any ∨ (i ∉ vs ∧ g[i]? = some t)
  | [], h => .inr ⟨fun m => (nomatch m), h⟩
  | v :: vs, h => by
    have h : ((wipeT g vs).set v .any)[i]? = some t := h
    by_cases e : v = i
    · subst e
      by_cases q : v < (wipeT g vs).length
      · rw [List.getElem?_set_self q] at h
        exact .inl (Option.some.inj h).symm
      · rw [List.getElem?_eq_none (by rw [List.length_set]; omega)] at h
        cases h
    · rw [List.getElem?_set_ne e] at h
      rcases wipeT_get h with z | ⟨z1, z2⟩
      · exact .inl z
      · refine .inr ⟨fun m => ?_, z2⟩
        rcases List.mem_cons.mp m with m | m
        · exact e m.symm
        · exact z1 m
theorem Sat.wipe (S : Sat H0 x ss σ H) (vs : List Nat) : Sat H0 x { ss with g := wipeT ss.g vs } (wipe σ vs) H where
  fr := S.fr
  ls := S.ls
  nd := S.nd
  bg := S.bg
  tx := S.tx
  vr := fun i t h => by
    rcases wipeT_get h with z | ⟨z1, z2⟩
    · exact .inl z
    · rcases S.vr i t z2 with y | ⟨v, h1, h2⟩
      · exact .inl y
      · exact .inr ⟨v, by rw [wipe_out z1]; exact h1, h2⟩
  ln := by
    rw [wipe_length]
    exact S.ln.trans (wipeT_len ss.g vs).symm
theorem wipe_eq {σ1 σ2 : L2.St} {vs : List Nat} (h : ∀ i, i ∉ vs → σ1[i]? = σ2[i]?) (hl : σ1.length = σ2.length) : wipe σ1 vs = wipe σ2 vs := by
  have key : ∀ (us : List Nat) (σ : L2.St) (i : Nat), (wipe σ us)[i]? = if i ∈ us ∧ i < σ.length then some none else σ[i]? := by
    intro us
    induction us with
    | nil =>
      intro σ i
      rw [if_neg (fun z => nomatch z.1)]
      rfl
    | cons v us ih =>
      intro σ i
      show ((wipe σ us).set v none)[i]? = _
      by_cases e : v = i
      · subst e
        by_cases q : v < σ.length
        · rw [List.getElem?_set_self (by rw [wipe_length]; exact q), if_pos ⟨List.mem_cons_self, q⟩]
        · rw [List.getElem?_eq_none (by rw [List.length_set, wipe_length]; omega), if_neg fun z => q z.2, List.getElem?_eq_none (by omega)]
      · rw [List.getElem?_set_ne e, ih]
        by_cases m : i ∈ us ∧ i < σ.length
        · rw [if_pos m, if_pos ⟨List.mem_cons_of_mem _ m.1, m.2⟩]
        · rw [if_neg m, if_neg fun z => m ⟨(List.mem_cons.mp z.1).resolve_left (fun y => e y.symm), z.2⟩]
  apply List.ext_getElem?
  intro i
  rw [key, key, hl]
  by_cases m : i ∈ vs
  · by_cases q : i < σ2.length
    · rw [if_pos ⟨m, q⟩, if_pos ⟨m, q⟩]
    · rw [if_neg fun z => q z.2, if_neg fun z => q z.2, List.getElem?_eq_none (by omega), List.getElem?_eq_none (by omega)]
  · rw [if_neg fun z => m z.1, if_neg fun z => m z.1]
    exact h i m
theorem wipe_wipe (σ : L2.St) (vs : List Nat) : wipe (wipe σ vs) vs = wipe σ vs := wipe_eq (fun i n => wipe_out n) (wipe_length σ vs)
/-- a new list of mine -/
theorem Sat.mine (S : Sat H0 x ss σ H) {p : Addr} {o : HO} {m : MO} (hp : H p = none) (hm : ∀ M, m.holds (hid M H) (upd H p o) p) : Sat H0 x { ss with l := (p, m) :: ss.l } σ (upd H p o) ∧ Same (hid (ss.M x) H) (hid (({ ss with l := (p, m) :: ss.l } : SS).M x) (upd H p o)) := by
  have nM : p ∉ ss.M x := S.trk.fresh hp
  have e : Same (hid (ss.M x) H) (hid (({ ss with l := (p, m) :: ss.l } : SS).M x) (upd H p o)) := fun a u h => by
    obtain ⟨n, h⟩ := hid_some h
    have ne : a ≠ p := ne_of_none h hp
    rw [hid_out fun z => ?_]
    · rw [upd_ne ne]
      exact h
    · rcases List.mem_cons.mp z with z | z
      · exact ne z
      · exact n z
  have h0p : H0 p = none := by
    cases z : H0 p with
    | none => rfl
    | some u =>
      by_cases b : p ∈ ss.bm
      · obtain ⟨c, hc⟩ := bm_iff.mp b
        obtain ⟨⟨_, s0, s1, s2, cs, e1, _⟩, _⟩ := S.bg p c hc
        rw [e1] at hp
        cases hp
      · rw [S.fr p u b z] at hp
        cases hp
  refine ⟨⟨fun a u n h => ?_, fun q hq => ?_, ?_, fun b c h => ?_, S.tx, fun i t h => ?_, S.ln⟩, e⟩
  · rw [upd_ne (ne_of_none (S.fr a u n h) hp)]
    exact S.fr a u n h
  · rcases List.mem_cons.mp hq with z | z
    · subst z
      exact ⟨h0p, MO.mono e rfl (hm (ss.M x))⟩
    · obtain ⟨h1, h2⟩ := S.ls q z
      refine ⟨h1, MO.mono e ?_ h2⟩
      refine upd_ne fun y => ?_
      have := MO.some h2
      rw [y] at this
      exact this hp
  · show (p :: ss.l.map (·.1)).Nodup
    exact List.nodup_cons.mpr ⟨fun m => nM (List.mem_append_left _ m), S.nd⟩
  · obtain ⟨h1, h2, h3⟩ := S.bg b c h
    exact ⟨h1.mono (same_new hp), h2, h3⟩
  · rcases S.vr i t h with z | ⟨v, h1, h2⟩
    · exact .inl z
    · exact .inr ⟨v, h1, Ty.mono e h2⟩
/-- mine changes -/
theorem Sat.chg {p : Addr} {m m' : MO} {o : HO} {L : List (Addr × MO)} (S : Sat H0 x { ss with l := (p, m) :: L } σ H) (hm : m'.holds (hid (({ ss with l := (p, m) :: L } : SS).M x) H) (upd H p o) p) :
    Sat H0 x { ss with l := (p, m') :: L } σ (upd H p o) ∧ hid (({ ss with l := (p, m') :: L } : SS).M x) (upd H p o) = hid (({ ss with l := (p, m) :: L } : SS).M x) H := by
  have pin : p ∈ ({ ss with l := (p, m) :: L } : SS).M x := List.mem_append_left _ List.mem_cons_self
  have e : hid (({ ss with l := (p, m') :: L } : SS).M x) (upd H p o) = hid (({ ss with l := (p, m) :: L } : SS).M x) H := hid_upd pin
  have h0p : H0 p = none := (S.ls (p, m) List.mem_cons_self).1
  have nd : (p :: L.map (·.1)).Nodup := S.nd
  refine ⟨⟨fun a u n h => ?_, fun q hq => ?_, S.nd, fun b c h => ?_, S.tx, fun i t h => ?_, S.ln⟩, e⟩
  · rw [upd_ne (ne_of_none h h0p)]
    exact S.fr a u n h
  · rw [e]
    rcases List.mem_cons.mp hq with z | z
    · subst z
      exact ⟨h0p, hm⟩
    · obtain ⟨h1, h2⟩ := S.ls q (List.mem_cons_of_mem _ z)
      refine ⟨h1, MO.mono (Same.refl _) ?_ h2⟩
      exact upd_ne fun y => (List.nodup_cons.mp nd).1 (List.mem_map.mpr ⟨q, z, y⟩)
  · obtain ⟨h1, h2, h3⟩ := S.bg b c h
    refine ⟨?_, h2, h3⟩
    obtain ⟨n, s0, s1, s2, cs, e1, e2, r⟩ := h1
    refine ⟨n, s0, s1, s2, cs, ?_, ?_, r⟩
    · rw [upd_ne fun y => h2 (by rw [y]; exact h0p)]
      exact e1
    · rw [upd_ne fun y => h3 (by rw [y]; exact h0p)]
      exact e2
  · rw [e]
    exact S.vr i t h
/-- mine no more: it is data from now on -/
theorem Sat.unmine {p : Addr} {m : MO} {L : List (Addr × MO)} (S : Sat H0 x { ss with l := (p, m) :: L } σ H) : Sat H0 x { ss with l := L } σ H ∧ Same (hid (({ ss with l := (p, m) :: L } : SS).M x) H) (hid (({ ss with l := L } : SS).M x) H) ∧ m.holds (hid (({ ss with l := L } : SS).M x) H) (hid (({ ss with l := L } : SS).M x) H) p := by
  have e : Same (hid (({ ss with l := (p, m) :: L } : SS).M x) H) (hid (({ ss with l := L } : SS).M x) H) := hid_sub fun a h => List.mem_cons_of_mem _ h
  have nd : (p :: L.map (·.1)).Nodup := S.nd
  obtain ⟨h0, hm⟩ := S.ls (p, m) List.mem_cons_self
  have np : p ∉ ({ ss with l := L } : SS).M x := fun h => by
    rcases List.mem_append.mp h with h | h
    · exact (List.nodup_cons.mp nd).1 h
    · rcases List.mem_append.mp h with h | h
      · obtain ⟨c, hc⟩ := bm_iff.mp h
        exact (S.bg p c hc).2.1 h0
      · obtain ⟨o, e, _⟩ := S.tx p h
        rw [h0] at e
        cases e
  refine ⟨⟨S.fr, fun q hq => ?_, (List.nodup_cons.mp nd).2, S.bg, S.tx, fun i t h => ?_, S.ln⟩, e, MO.mono e (hid_out np) hm⟩
  · obtain ⟨h1, h2⟩ := S.ls q (List.mem_cons_of_mem _ hq)
    exact ⟨h1, MO.mono e rfl h2⟩
  · rcases S.vr i t h with z | ⟨v, h1, h2⟩
    · exact .inl z
    · exact .inr ⟨v, h1, Ty.mono e h2⟩
end
section
variable {H0 : Hp} {x : List Addr} {ss : SS} {wi : TI} {g : TG} {tt : TT} {te : TE} {vs : List Nat} {Φ : Ty → Prop}
/-- the state within a comprehension that has made acc so far at D -/
abbrev SS.cm (ss : SS) (vs : List Nat) (D : Addr) (acc : List PyData) : SS := { ss with g := wipeT ss.g vs, l := (D, .lst acc) :: ss.l }
/-- what comes is a new list, mine to change -/
def EvM (H0 : Hp) (x : List Addr) (ss : SS) (te : TE) (Φ : MO → Prop) : Prop := ∀ σ H, Sat H0 x ss σ H → ∀ Q : VK, (∀ p m H', Φ m → H p = none → Sat H0 x { ss with l := (p, m) :: ss.l } σ H' → Fr ss H H' → Q (.ref p) H') → te σ H Q
theorem em_lc {Ψ : Nat → (Nat → Ty) → Prop} {Φ : MO → Prop} (hs : SrcP H0 x ss wi Ψ) (J : (Nat → Ty) → Nat → List PyData → Prop) (h0 : ∀ n ty, Ψ n ty → n ≤ 100000 ∧ J ty 0 [])
    (step : ∀ n ty, Ψ n ty → ∀ H1, Bs x ss.b H0 H1 → ∀ D i acc, i < n → J ty i acc → ∃ ws s', Bd H1 x g (ss.cm vs D acc) (ty i) ws s' ∧ (∀ w ∈ ws, w ∈ vs) ∧ s'.l = (D, .lst acc) :: ss.l ∧ s'.b = ss.b ∧
      ∃ Ψt : Bool → Prop, EvT H1 x s' tt Ψt ∧ (Ψt false → J ty (i + 1) acc) ∧ (Ψt true → Ev H1 x s' te (fun t => ∃ d, t = .im d ∧ J ty (i + 1) (acc ++ [d]))))
    (done : ∀ n ty, Ψ n ty → ∀ acc, J ty n acc → Φ (.lst acc)) : EvM H0 x ss (tLc wi g tt te vs) Φ := fun σ H S Q q =>
  hs σ H S _ fun n ty It H' Y p S1 e w y => by
    intro D hD
    obtain ⟨hn, hj⟩ := h0 n ty p
    obtain ⟨S2, B⟩ := S1.now
    have m0 : ∀ M, MO.holds (hid M H') (upd H' D (.lst [])) D (.lst []) := fun M => ⟨[], upd_same, .nil⟩
    obtain ⟨S3, e3⟩ := S2.mine (m := .lst []) hD m0
    refine lc_it w (fun i H2 => ∃ acc, J ty i acc ∧ acc.length ≤ i ∧ Fr ss H' H2 ∧ Sat (hid (ss.l.map (·.1)) H') x { ss with l := (D, .lst acc) :: ss.l } σ H2) ⟨[], hj, Nat.zero_le _, hid_mono (same_new hD), S3⟩ (fun i H2 _ q2 => ?_) (fun i v H2 H3 hi q2 yy => ?_) fun H2 q2 => ?_
    · obtain ⟨acc, _, _, _, S4⟩ := q2
      exact (S4.seen (ss := ss) rfl).trans same_hid
    · obtain ⟨acc, hJ, hl, F4, S4⟩ := q2
      obtain ⟨e5, hv⟩ := y i H2 v H3 (({ ss with l := (D, .lst acc) :: ss.l } : SS).M x) hi (S4.seen (ss := ss) rfl) S4.trk yy
      have S5 := S4.pure e5
      have S6 := S5.wipe vs
      obtain ⟨ws, s', hB, hw, hl', hb', Ψt, hT, hF, hE⟩ := step n ty p _ B D i acc hi hJ
      refine hB v (wipe σ vs) H3 _ S6 hv fun σ2 S7 k7 l7 => ⟨?_, ?_⟩
      · rw [wipe_eq (σ1 := σ2) (σ2 := wipe σ vs) (fun i n => k7 i fun m => n (hw i m)) l7]
        exact wipe_wipe σ vs
      · have hM : s'.M x = ({ ss with l := (D, .lst acc) :: ss.l } : SS).M x := by
          unfold SS.M SS.bm
          rw [hl', hb']
        have hbm : s'.bm = ss.bm := by
          unfold SS.bm
          rw [hb']
        have back : ∀ {H4 H5 : Hp}, Sat (hid (ss.l.map (·.1)) H') x { ss with l := (D, .lst acc) :: ss.l } σ H4 → Sat (hid (ss.l.map (·.1)) H') x s' σ2 H5 → Fr s' H4 H5 → Sat (hid (ss.l.map (·.1)) H') x { ss with l := (D, .lst acc) :: ss.l } σ H5 := fun {H4 H5} Z4 Z5 e =>
          ⟨fun a o n h => Z5.fr a o (fun m => n (bm_iff.mpr (let ⟨c, hc⟩ := bm_iff.mp m; ⟨c, hb' ▸ hc⟩))) h, fun z hz => by
            have := Z5.ls z (by rw [hl']; exact hz)
            rw [hM] at this
            exact this, Z4.nd, fun b c h => Z5.bg b c (by rw [hb']; exact h), Z4.tx, fun i t h => by
            rcases Z4.vr i t h with z | ⟨v, h1, h2⟩
            · exact .inl z
            · refine .inr ⟨v, h1, Ty.mono ?_ h2⟩
              rw [← hM]
              exact Fr.m e, Z4.ln⟩
        refine hT σ2 H3 S7 _ fun b H4 p4 S8 e8 => ?_
        have S9 := back S5 S8 e8
        have F9 : Fr ss H' H4 := by
          refine (F4.trans (hid_mono e5)).trans ?_
          have e8' : Same (hid s'.bm H3) (hid s'.bm H4) := e8
          rw [hbm] at e8'
          exact e8'
        cases b with
        | false =>
          rw [if_neg Bool.false_ne_true]
          exact ⟨acc, hF p4, by omega, F9, S9⟩
        | true =>
          rw [if_pos rfl]
          refine hE p4 σ2 H4 S8 _ fun t y H5 p5 S10 e10 r => ?_
          obtain ⟨d, rfl, hJ'⟩ := p5
          have S11 := back S9 S10 e10
          obtain ⟨h0D, us, hD5, hds⟩ := S11.ls (D, .lst acc) List.mem_cons_self
          refine ⟨us, hD5, ?_, acc ++ [d], hJ', ?_, ?_, ?_⟩
          · rw [dps_len hds]
            exact Nat.lt_of_le_of_lt (Nat.le_trans hl (Nat.le_trans (Nat.le_of_lt hi) hn)) (by decide)
          · rw [List.length_append, List.length_singleton]
            omega
          · have e10' : Same (hid s'.bm H4) (hid s'.bm H5) := e10
            rw [hbm] at e10'
            intro a o h
            have h5 := (F9.trans e10') a o h
            obtain ⟨n5, h5⟩ := hid_some h5
            rw [hid_out n5, upd_ne fun z => ?_]
            · exact h5
            · rw [z] at h
              rw [(hid_some h).2] at hD
              cases hD
          · refine (S11.chg (ss := ss) (m' := .lst (acc ++ [d])) ⟨us ++ [y], upd_same, dps_app hds (.cons ?_ .nil)⟩).1
            have r' : Dq (hid (s'.M x) H5) y d := r
            rw [hM] at r'
            exact r'
    · obtain ⟨acc, hJ, _, F4, S4⟩ := q2
      refine q D (.lst acc) H2 (done n ty p acc hJ) ?_ (S4.back (ss := ss) B rfl) (e.trans F4)
      cases z : H D with
      | none => rfl
      | some o =>
        by_cases hb : D ∈ ss.bm
        · obtain ⟨c, hc⟩ := bm_iff.mp hb
          obtain ⟨⟨_, s0, s1, s2, cs, e1, _⟩, _⟩ := S1.bg D c hc
          rw [e1] at hD
          cases hD
        · have h1 := e D o (by rw [hid_out hb]; exact z)
          rw [(hid_some h1).2] at hD
          cases hD
def MO.ty : MO → Ty
  | .lst ds => .im (.list ds)
  | .dK kvs => .dK kvs
  | .dT kvs => .dT kvs
  | .pr φ => .pr fun v H => ∃ (a : Addr) (o : HO), v = V.ref a ∧ H a = Option.some o ∧ (∀ xs : List V, o ≠ HO.tup xs) ∧ φ H o
theorem MO.ty_holds {H : Hp} {p : Addr} : ∀ {m : MO}, m.holds H H p → m.ty.holds (.ref p) H
  | .lst _, ⟨_, h, r⟩ => .lst h r
  | .dK _, ⟨vs, h, r⟩ => ⟨p, vs, rfl, h, r⟩
  | .dT _, ⟨vs, h, r⟩ => ⟨p, vs, rfl, h, r⟩
  | .pr _, ⟨o, h, n, r⟩ => fun H2 e => ⟨p, o, rfl, e _ _ h, n, r H2 e⟩
/-- .. or just data -/
theorem EvM.ev {te : TE} {Φ : MO → Prop} {Ψ : Ty → Prop} (h : EvM H0 x ss te Φ) (k : ∀ m, Φ m → Ψ m.ty) : Ev H0 x ss te Ψ := fun σ H S Q q =>
  h σ H S Q fun p m H' hm _ S' e => by
    obtain ⟨S5, e5, hp⟩ := S'.unmine (ss := ss)
    exact q m.ty _ H' (k m hm) S5 e (MO.ty_holds hp)
theorem ev_lc {Ψ : Nat → (Nat → Ty) → Prop} {Φ : Ty → Prop} (hs : SrcP H0 x ss wi Ψ) (J : (Nat → Ty) → Nat → List PyData → Prop) (h0 : ∀ n ty, Ψ n ty → n ≤ 100000 ∧ J ty 0 [])
    (step : ∀ n ty, Ψ n ty → ∀ H1, Bs x ss.b H0 H1 → ∀ D i acc, i < n → J ty i acc → ∃ ws s', Bd H1 x g (ss.cm vs D acc) (ty i) ws s' ∧ (∀ w ∈ ws, w ∈ vs) ∧ s'.l = (D, .lst acc) :: ss.l ∧ s'.b = ss.b ∧
      ∃ Ψt : Bool → Prop, EvT H1 x s' tt Ψt ∧ (Ψt false → J ty (i + 1) acc) ∧ (Ψt true → Ev H1 x s' te (fun t => ∃ d, t = .im d ∧ J ty (i + 1) (acc ++ [d]))))
    (done : ∀ n ty, Ψ n ty → ∀ acc, J ty n acc → Φ (.im (.list acc))) : Ev H0 x ss (tLc wi g tt te vs) Φ :=
  (em_lc (Φ := fun m => ∃ acc, m = .lst acc ∧ Φ (.im (.list acc))) hs J h0 step fun n ty p acc j => ⟨acc, rfl, done n ty p acc j⟩).ev fun m ⟨acc, e, h⟩ => by
    subst e
    exact h
end

/-! ### a def's beginning and end -/
section
variable {x : List Addr} {H : Hp}
theorem holds_get : ∀ {vs : List V} {ts : List Ty} {i : Nat} {t : Ty}, Hold H vs ts → ts[i]? = some t → ∃ v, vs[i]? = some v ∧ t.holds v H
  | v :: vs, t :: ts, 0, _, h, e => by
    have e' : t = _ := Option.some.inj (by simpa using e)
    subst e'
    exact ⟨v, rfl, h.1⟩
  | v :: vs, t :: ts, i + 1, u, h, e => by
    obtain ⟨w, h1, h2⟩ := holds_get (i := i) h.2 (by simpa using e)
    exact ⟨w, by simpa using h1, h2⟩
  | [], [], _, _, _, e => by simp at e
  | [], _ :: _, _, _, h, _ => h.elim
  | _ :: _, [], _, _, h, _ => h.elim
/-- the slots at the start -/
def St0 (ts : List Ty) (n : Nat) : List Ty := ts ++ List.replicate (n - ts.length) .any
theorem start_vr {N : List Str} {vs : List V} {ts : List Ty} (h : Hold H vs ts) : ∀ (i : Nat) (t : Ty), (St0 ts N.length)[i]? = some t → t = .any ∨ ∃ v, (L2.start N vs)[i]? = some (some v) ∧ t.holds v H := fun i t e => by
  unfold St0 at e
  by_cases q : i < ts.length
  · rw [List.getElem?_append_left q] at e
    obtain ⟨v, h1, h2⟩ := holds_get h e
    refine .inr ⟨v, ?_, h2⟩
    unfold L2.start
    rw [List.getElem?_append_left (by rw [List.length_map, h.len]; exact q), List.getElem?_map, h1]
    rfl
  · rw [List.getElem?_append_right (by omega), List.getElem?_replicate] at e
    split at e
    · exact .inl (Option.some.inj e).symm
    · cases e
theorem start_len {N : List Str} {vs : List V} {ts : List Ty} (h : Hold H vs ts) : (L2.start N vs).length = (St0 ts N.length).length := by
  unfold L2.start St0
  rw [List.length_append, List.length_append, List.length_map, List.length_replicate, List.length_replicate, h.len]
theorem start_F {N : List Str} {vs : List V} {ts : List Ty} {ts' : TS} {D : Ends} (T : Trk x H) (h : Hold (hid x H) vs ts) (k : Tr H x ⟨St0 ts N.length, [], none⟩ ts' D) : ts' D (L2.start N vs) H :=
  k _ H ⟨fun _ _ _ h => h, fun _ z => (nomatch z), List.nodup_nil, fun _ _ z => (nomatch z), T, start_vr h, start_len h⟩
theorem start_B {N : List Str} {us : List V} {ts : List Ty} {b c : Addr} {ts' : TS} {D : Ends} (B : BagAt H b c) (T : Trk x H) (h : Hold (hid (b :: x) H) us ts) (k : Tr H x ⟨St0 (.rf b :: ts) N.length, [], some (b, c)⟩ ts' D) : ts' D (L2.start N (.ref b :: us)) H := by
  obtain ⟨nb, s0, s1, s2, cs, e1, e2, r⟩ := id B
  refine k _ H ⟨fun _ _ _ h => h, fun _ z => (nomatch z), List.nodup_nil, fun b' c' z => ?_, T, start_vr (vs := .ref b :: us) (ts := .rf b :: ts) ⟨rfl, h⟩, start_len (H := hid (b :: x) H) (vs := .ref b :: us) (ts := .rf b :: ts) ⟨rfl, h⟩⟩
  cases z
  exact ⟨B, (by rw [e1]; exact fun q => (nomatch q)), (by rw [e2]; exact fun q => (nomatch q))⟩
/-- what a return must show -/
def Ret (H0 : Hp) (x : List Addr) (b : Option (Addr × Addr)) (Φ : Ty → Prop) (rt : VK) : Prop := ∀ ss σ H t v, Sat H0 x ss σ H → ss.b = b → Φ t → t.holds v (hid (ss.M x) H) → rt v H
theorem Ret.later {H0 H1 : Hp} {b : Option (Addr × Addr)} {Φ : Ty → Prop} {rt : VK} (R : Ret H0 x b Φ rt) (B : Bs x b H0 H1) : Ret H1 x b Φ rt := fun ss σ H t v S hb p r =>
  R ss σ H t v (S.back (ss := ⟨[], [], b⟩) B hb) hb p r
theorem ret_F {Φ : Ty → Prop} {Q : VK} (q : ∀ t v H', Φ t → Same H H' → t.holds v (hid x H') → Q v H') : Ret H x none Φ Q := fun ss σ H' t v S hb p r => by
  refine q t v H' p (fun a o h => S.fr a o (fun m => ?_) h) (Ty.mono (hid_sub fun a m => List.mem_append_right _ (List.mem_append_right _ m)) r)
  obtain ⟨c, e⟩ := bm_iff.mp m
  rw [hb] at e
  cases e
theorem ret_B {Φ : Ty → Prop} {Q : VK} {b c : Addr} (q : ∀ t v H', Φ t → Same (hid [b] H) (hid [b] H') → BagAt H' b c → t.holds v (hid (b :: x) H') → Q v H') : Ret H x (some (b, c)) Φ Q := fun ss σ H' t v S hb p r => by
  refine q t v H' p (fun a o h => ?_) (S.bg b c hb).1 (Ty.mono (hid_sub fun a m => ?_) r)
  · obtain ⟨n, h⟩ := hid_some h
    rw [hid_out n]
    refine S.fr a o (fun m => n ?_) h
    obtain ⟨c', e⟩ := bm_iff.mp m
    rw [hb] at e
    cases e
    exact List.mem_singleton.mpr rfl
  · rcases List.mem_cons.mp m with m | m
    · rw [m]
      exact List.mem_append_right _ (List.mem_append_left _ (bm_iff.mpr ⟨c, hb⟩))
    · exact List.mem_append_right _ (List.mem_append_right _ m)
theorem tr_retR {H0 : Hp} {ss : SS} {te : TE} {u : TS} {D : Ends} {Φ : Ty → Prop} {Ψ : Ty → Prop} {b : Option (Addr × Addr)} (R : Ret H0 x b Φ D.rt) (h : Ev H0 x ss te Ψ) (k : ∀ t, Ψ t → Φ t) (hb : ss.b = b := by rfl) : Tr H0 x ss (tSeq (tRet te) u) D :=
  tr_ret h fun σ t v H p S r => R ss σ H t v S hb (k t p) r
end
end Sx
set_option Elab.async false
set_option linter.all false
set_option maxRecDepth 100000
set_option maxHeartbeats 1000000
/-! Data of known kinds; operators, calls of built-ins, slices by data. -/
namespace Sx
open PySem L2

/-! ### data of a kind -/
structure Enc {α : Type} [DecidableEq α] (f : α → PyData) (n : Nat) : Prop where
  lay : ∀ a, (f a).canLay0 = true
  dep : ∀ a, (f a).depth ≤ n
  eqv : ∀ a b, PyData.eqv (f a) (f b) = decide (a = b)
theorem dec_iff {p q : Prop} [Decidable p] [Decidable q] (h : p ↔ q) : decide p = decide q := by
  by_cases hp : p
  · rw [decide_eq_true hp, decide_eq_true (h.mp hp)]
  · rw [decide_eq_false hp, decide_eq_false fun z => hp (h.mpr z)]
/-- a name, a sort: a text of few good signs -/
abbrev Nm := {z : Str // PyData.strOk z = true ∧ z.length ≤ 24}
abbrev nD (n : Nm) : PyData := .str n.1
theorem str_beq (a b : Str) : (a == b) = decide (a = b) := by
  by_cases h : a = b
  · rw [h, decide_eq_true rfl]
    exact beq_self_eq_true b
  · rw [decide_eq_false h]
    exact beq_eq_false_iff_ne.mpr h
theorem encS : Enc nD 0 := ⟨fun a => by
  simp only [PyData.canLay0]
  exact a.2.1, fun a => by simp [PyData.depth], fun a b => by
  show (a.1 == b.1) = decide (a = b)
  rw [str_beq]
  exact dec_iff Subtype.ext_iff.symm⟩
theorem encI : Enc PyData.int 0 := ⟨fun a => by simp [PyData.canLay0], fun a => by simp [PyData.depth], fun a b => by
  show (a == b) = decide (a = b)
  exact Bool.beq_eq_decide_eq a b⟩
theorem encB : Enc PyData.bool 0 := ⟨fun a => by simp [PyData.canLay0], fun a => by simp [PyData.depth], fun a b => by
  show (a == b) = decide (a = b)
  exact Bool.beq_eq_decide_eq a b⟩
section
variable {α β γ : Type} [DecidableEq α] [DecidableEq β] [DecidableEq γ] {f : α → PyData} {g : β → PyData} {h : γ → PyData} {m n k : Nat}
theorem Enc.le (e : Enc f m) (hn : m ≤ n) : Enc f n := ⟨e.lay, fun a => Nat.le_trans (e.dep a) hn, e.eqv⟩
theorem Enc.inj (e : Enc f n) {a b : α} (q : f a = f b) : a = b := by
  have h1 := e.eqv a b
  rw [q, e.eqv b b] at h1
  rw [decide_eq_true rfl] at h1
  exact of_decide_eq_true h1.symm
theorem Enc.t2 (e1 : Enc f n) (e2 : Enc g n) : Enc (fun p : α × β => PyData.tuple [f p.1, g p.2]) (n + 1) := ⟨fun a => by
    simp [PyData.canLay0, PyData.canLayAll0, e1.lay, e2.lay], fun a => by
    have h1 := e1.dep a.1
    have h2 := e2.dep a.2
    simp [PyData.depth, PyData.depthAll]
    omega, fun a b => by
    simp only [PyData.eqv, PyData.eqvAll, e1.eqv, e2.eqv, Bool.and_true]
    rw [← Bool.decide_and]
    exact dec_iff ⟨fun z => Prod.ext z.1 z.2, fun z => by rw [z]; exact ⟨rfl, rfl⟩⟩⟩
theorem Enc.t3 (e1 : Enc f n) (e2 : Enc g n) (e3 : Enc h n) : Enc (fun p : α × β × γ => PyData.tuple [f p.1, g p.2.1, h p.2.2]) (n + 1) := ⟨fun a => by
    simp [PyData.canLay0, PyData.canLayAll0, e1.lay, e2.lay, e3.lay], fun a => by
    have h1 := e1.dep a.1
    have h2 := e2.dep a.2.1
    have h3 := e3.dep a.2.2
    simp [PyData.depth, PyData.depthAll]
    omega, fun a b => by
    simp only [PyData.eqv, PyData.eqvAll, e1.eqv, e2.eqv, e3.eqv, Bool.and_true]
    rw [← Bool.decide_and, ← Bool.decide_and]
    exact dec_iff ⟨fun z => Prod.ext z.1 (Prod.ext z.2.1 z.2.2), fun z => by rw [z]; exact ⟨rfl, rfl, rfl⟩⟩⟩
theorem Enc.lays (e : Enc f n) : ∀ as : List α, PyData.canLayAll0 (as.map f) = true
  | [] => by simp [PyData.canLayAll0]
  | a :: as => by simp [PyData.canLayAll0, e.lay, Enc.lays e as]
theorem Enc.deps (e : Enc f n) : ∀ as : List α, PyData.depthAll (as.map f) ≤ n
  | [] => by simp [PyData.depthAll]
  | a :: as => by
    have h1 := e.dep a
    have h2 := Enc.deps e as
    simp [PyData.depthAll]
    omega
theorem Enc.eqvs (e : Enc f n) : ∀ as bs : List α, PyData.eqvAll (as.map f) (bs.map f) = decide (as = bs)
  | [], [] => by simp [PyData.eqvAll]
  | [], _ :: _ => by simp [PyData.eqvAll]
  | _ :: _, [] => by simp [PyData.eqvAll]
  | a :: as, b :: bs => by
    rw [List.map_cons, List.map_cons, PyData.eqvAll, e.eqv, Enc.eqvs e as bs, ← Bool.decide_and]
    exact dec_iff ⟨fun z => by rw [z.1, z.2], fun z => by injection z with z1 z2; exact ⟨z1, z2⟩⟩
theorem Enc.tl (e : Enc f n) : Enc (fun as : List α => PyData.tuple (as.map f)) (n + 1) := ⟨fun a => by
    simp only [PyData.canLay0]
    exact e.lays a, fun a => by
    have h1 := e.deps a
    simp only [PyData.depth]
    omega, fun a b => by
    simp only [PyData.eqv]
    exact e.eqvs a b⟩
theorem Enc.ll (e : Enc f n) : Enc (fun as : List α => PyData.list (as.map f)) (n + 1) := ⟨fun a => by
    simp only [PyData.canLay0]
    exact e.lays a, fun a => by
    have h1 := e.deps a
    simp only [PyData.depth]
    omega, fun a b => by
    simp only [PyData.eqv]
    exact e.eqvs a b⟩
/-- None or one of them -/
def oD (f : α → PyData) : Option α → PyData
  | none => .none
  | some a => f a
theorem encO : Enc (oD nD) 0 := ⟨fun a => by
  cases a with
  | none => simp [oD, PyData.canLay0]
  | some a => exact encS.lay a, fun a => by cases a <;> simp [oD, PyData.depth], fun a b => by
  cases a with
  | none => cases b <;> simp [oD, PyData.eqv]
  | some a =>
    cases b with
    | none => simp [oD, PyData.eqv]
    | some b =>
      show PyData.eqv (nD a) (nD b) = _
      rw [encS.eqv]
      exact dec_iff ⟨fun z => by rw [z], fun z => Option.some.inj z⟩⟩
theorem Enc.sh (e : Enc f n) (hn : n ≤ 60 := by decide) (a : α) : SeqAt.shaped (f a) = true := by
  show ((f a).canLay0 && decide ((f a).depth ≤ 64)) = true
  rw [Bool.and_eq_true]
  exact ⟨e.lay a, decide_eq_true (Nat.le_trans (e.dep a) (by omega))⟩
theorem Enc.any (e : Enc f n) (a : α) : ∀ as : List α, ((as.map f).any fun z => PyData.eqv z (f a)) = decide (a ∈ as)
  | [] => by simp
  | b :: as => by
    rw [List.map_cons, List.any_cons, Enc.any e a as, e.eqv, ← Bool.decide_or]
    exact dec_iff ⟨fun z => z.elim (fun z => by rw [z]; exact List.mem_cons_self) (fun z => List.mem_cons_of_mem _ z), fun z => (List.mem_cons.mp z).imp (fun z => z.symm) id⟩
end
abbrev Key2 := Nm × Nm
abbrev Sec := Nm × Nm × Nm
abbrev Trn := Nm × Nm × List Nm
abbrev Stf := Key2 × Nm
def sD : List Nm → PyData := fun xs => .tuple (xs.map nD)
def kD : Key2 → PyData := fun p => .tuple [nD p.1, nD p.2]
def cD : Sec → PyData := fun p => .tuple [nD p.1, nD p.2.1, nD p.2.2]
def tD : Trn → PyData := fun p => .tuple [nD p.1, nD p.2.1, sD p.2.2]
def fD : Stf → PyData := fun p => .tuple [kD p.1, nD p.2]
abbrev Lin := List Nm × List Sec
abbrev Stn := List Stf × List Trn
def lD : Lin → PyData := fun p => .tuple [.tuple (p.1.map nD), .tuple (p.2.map cD)]
def zD : Stn → PyData := fun p => .tuple [.tuple (p.1.map fD), .tuple (p.2.map tD)]
theorem encSs : Enc sD 1 := encS.tl
theorem encK : Enc kD 1 := encS.t2 encS
theorem encC : Enc cD 1 := encS.t3 encS encS
theorem encT : Enc tD 2 := Enc.t3 (encS.le (by decide)) (encS.le (by decide)) encSs
theorem encF : Enc fD 2 := Enc.t2 encK (encS.le (by decide))

/-! ### operators -/
section
variable {K : PySem.W.Frag} {α : Type} [DecidableEq α] {f : α → PyData} {n : Nat} {a b : α}
theorem rd_eq (e : Enc f n) (hn : n ≤ 60 := by decide) : RD (rEqD K) (.im (f a)) (.im (f b)) (.im (.bool (decide (a = b)))) := fun M x y H T hx hy Q q =>
  ⟨f a, f b, (dp_mono same_hid hx).dp, (dp_mono same_hid hy).dp, e.sh hn a, e.sh hn b, by
    rw [e.eqv]
    exact q _ _ H rfl (Same.refl _) (.bl _)⟩
theorem rd_ne (e : Enc f n) (hn : n ≤ 60 := by decide) : RD (rNeD K) (.im (f a)) (.im (f b)) (.im (.bool (!decide (a = b)))) := fun M x y H T hx hy Q q =>
  ⟨f a, f b, (dp_mono same_hid hx).dp, (dp_mono same_hid hy).dp, e.sh hn a, e.sh hn b, by
    rw [e.eqv]
    exact q _ _ H rfl (Same.refl _) (.bl _)⟩
theorem rd_in (e : Enc f n) {as : List α} (hn : n ≤ 59 := by decide) : RD (rInD K) (.im (f a)) (.im (.list (as.map f))) (.im (.bool (decide (a ∈ as)))) := fun M x y H T hx hy Q q =>
  ⟨f a, as.map f, (dp_mono same_hid hx).dp, (dp_mono same_hid hy).dp, e.sh (by omega) a, e.ll.sh (by omega) as, by
    rw [e.any]
    exact q _ _ H rfl (Same.refl _) (.bl _)⟩
theorem rd_ni (e : Enc f n) {as : List α} (hn : n ≤ 59 := by decide) : RD (rNotInD K) (.im (f a)) (.im (.list (as.map f))) (.im (.bool (!decide (a ∈ as)))) := fun M x y H T hx hy Q q =>
  ⟨f a, as.map f, (dp_mono same_hid hx).dp, (dp_mono same_hid hy).dp, e.sh (by omega) a, e.ll.sh (by omega) as, by
    rw [e.any]
    exact q _ _ H rfl (Same.refl _) (.bl _)⟩
/-- x in a tuple -/
def rInTD (K : PySem.W.Frag) : R2 := fun x y H Q => ∃ d ds, Dp K H x d ∧ Dp K H y (.tuple ds) ∧ SeqAt.shaped d = true ∧ SeqAt.shaped (.tuple ds) = true ∧ Q (.bl (ds.any fun z => PyData.eqv z d)) H
theorem op_inTD {X : Cx} (hu : X.A.units + 65 < cLine) : OpR X (compareOp .In) (rInTD X.K) := by
  intro pins s σ H x y v u Q I rx ry ⟨d, ds, hd, he, sd, se, q⟩
  obtain ⟨as, r1⟩ := Dp.reads I d x v hd rx
  obtain ⟨bs, r2⟩ := Dp.reads I (.tuple ds) y u he ry
  refine SeqAt.in_tuple_reads r2 r1 (SeqAt.canLay_of_shaped se) (SeqAt.canLay_of_shaped sd) ?_ ⟨.bl _, H, I, rfl, q⟩
  have h1 := SeqAt.depth_of_shaped sd
  have h2 : min (PyData.depthAll ds) d.depth ≤ d.depth := Nat.min_le_right _ _
  omega
theorem rd_inT (e : Enc f n) {as : List α} (hn : n ≤ 59 := by decide) : RD (rInTD K) (.im (f a)) (.im (.tuple (as.map f))) (.im (.bool (decide (a ∈ as)))) := fun M x y H T hx hy Q q =>
  ⟨f a, as.map f, (dp_mono same_hid hx).dp, (dp_mono same_hid hy).dp, e.sh (by omega) a, e.tl.sh (by omega) as, by
    rw [e.any]
    exact q _ _ H rfl (Same.refl _) (.bl _)⟩
end
section
variable {K : PySem.W.Frag} {i j : Int} {d : PyData} {ds es : List PyData}
theorem rd_i {C : Int → Int → Prop} {g : Int → Int → Int} (h : C i j) : RD (rI C fun i j => .int (g i j)) (.im (.int i)) (.im (.int j)) (.im (.int (g i j))) := fun M x y H T hx hy Q q => by
  cases hx
  cases hy
  exact ⟨i, j, rfl, rfl, h, q _ _ H rfl (Same.refl _) (.int _)⟩
theorem rd_i0 {g : Int → Int → Int} : RD (rI0 fun i j => .int (g i j)) (.im (.int i)) (.im (.int j)) (.im (.int (g i j))) := fun M x y H T hx hy Q q => by
  cases hx
  cases hy
  exact ⟨i, j, rfl, rfl, q _ _ H rfl (Same.refl _) (.int _)⟩
theorem rd_b0 {g : Int → Int → Bool} : RD (rI0 fun i j => .bl (g i j)) (.im (.int i)) (.im (.int j)) (.im (.bool (g i j))) := fun M x y H T hx hy Q q => by
  cases hx
  cases hy
  exact ⟨i, j, rfl, rfl, q _ _ H rfl (Same.refl _) (.bl _)⟩
theorem at_dps {H : Hp} {vs : List V} (r : DqAll H vs ds) (h : atI ds i = some d) : ∃ v, atI vs i = some v ∧ Dq H v d := by
  unfold atI at h ⊢
  rw [dps_len r]
  cases e : ixN ds.length i with
  | none =>
    rw [e] at h
    cases h
  | some j =>
    rw [e] at h
    exact dps_at r h
theorem rd_ixT (h : atI ds i = some d) : RD (rIxT K) (.im (.tuple ds)) (.im (.int i)) (.im d) := fun M x y H T hx hy Q q => by
  cases hy
  cases hx with
  | tup h1 h2 =>
    obtain ⟨v, e1, e2⟩ := at_dps h2 h
    exact ⟨_, _, i, v, rfl, rfl, .inl (.inl (hid_some h1).2), e1, q _ _ H rfl (Same.refl _) e2⟩
theorem rd_ixL (h : atI ds i = some d) : RD (rIxL K) (.im (.list ds)) (.im (.int i)) (.im d) := fun M x y H T hx hy Q q => by
  cases hy
  cases hx with
  | lst h1 h2 =>
    obtain ⟨v, e1, e2⟩ := at_dps h2 h
    exact ⟨_, _, i, v, rfl, rfl, .inl (.inl (hid_some h1).2), e1, q _ _ H rfl (Same.refl _) e2⟩
theorem rd_ixS {z : Str} {c : Nat} (hz : z.length ≤ 100000) (h : atI z.cps.toList i = some c) : RD rIxS (.im (.str z)) (.im (.int i)) (.im (.str ⟨#[c]⟩)) := fun M x y H T hx hy Q q => by
  cases hy
  cases hx
  exact ⟨z, i, c, rfl, rfl, Nat.le_trans hz (by decide), h, q _ _ H rfl (Same.refl _) (.str _)⟩
theorem rd_catT (hz : ds.length + es.length ≤ 100000) : RD (rCatA K) (.im (.tuple ds)) (.im (.tuple es)) (.im (.tuple (ds ++ es))) := fun M x y H T hx hy Q q => by
  cases hx with
  | tup h1 h2 =>
    cases hy with
    | tup h3 h4 =>
      have e1 := dps_len h2
      have e2 := dps_len h4
      refine ⟨_, _, _, _, rfl, rfl, .inl (.inl (hid_some h1).2), .inl (.inl (hid_some h3).2), by rw [e1, e2]; exact Nat.le_trans hz (by decide), fun z => ?_, fun _ z => ?_, fun _ _ p hp => ?_⟩
      · subst z
        cases h2
        exact q _ _ H rfl (Same.refl _) (.tup h3 h4)
      · subst z
        cases h4
        exact q _ _ H rfl (Same.refl _) (.tup h1 (by rw [List.append_nil]; exact h2))
      · exact q _ _ _ rfl (same_new hp) (.tup (hid_new T hp) (dps_mono (hid_mono (same_new hp)) (dps_app h2 h4)))
theorem rd_catL (hz : ds.length + es.length ≤ 100000) : RD rCat (.im (.list ds)) (.im (.list es)) (.im (.list (ds ++ es))) := fun M x y H T hx hy Q q => by
  cases hx with
  | lst h1 h2 =>
    cases hy with
    | lst h3 h4 =>
      have e1 := dps_len h2
      have e2 := dps_len h4
      exact ⟨_, _, _, _, rfl, rfl, (hid_some h1).2, (hid_some h3).2, by rw [e1, e2]; exact Nat.le_trans hz (by decide), fun p hp =>
        q _ _ _ rfl (same_new hp) (.lst (hid_new T hp) (dps_mono (hid_mono (same_new hp)) (dps_app h2 h4)))⟩
/-- texts -/
def rAddT : R2 := fun x y H Q => ∃ i j, x = .str i ∧ y = .str j ∧ i.length + j.length ≤ sizeLine ∧ Q (.str (i ++ j)) H
theorem op_addT {X : Cx} : OpR X (binaryOp .Add) rAddT := op_add_str
def rLtT2 : R2 := fun x y H Q => ∃ i j, x = .str i ∧ y = .str j ∧ Q (.bl (decide (i.cps.toList < j.cps.toList))) H
theorem op_ltT2 {X : Cx} : OpR X (compareOp .Lt) rLtT2 := op_lt_str
def sLt (a b : Str) : Bool := decide (a.cps.toList < b.cps.toList)
theorem rd_addT {u v : Str} (h : u.length + v.length ≤ 100000) : RD rAddT (.im (.str u)) (.im (.str v)) (.im (.str (u ++ v))) := fun M x y H T hx hy Q q => by
  cases hx
  cases hy
  exact ⟨u, v, rfl, rfl, Nat.le_trans h (by decide), q _ _ H rfl (Same.refl _) (.str _)⟩
theorem rd_ltT {u v : Str} : RD rLtT2 (.im (.str u)) (.im (.str v)) (.im (.bool (sLt u v))) := fun M x y H T hx hy Q q => by
  cases hx
  cases hy
  exact ⟨u, v, rfl, rfl, q _ _ H rfl (Same.refl _) (.bl _)⟩
/-- x is None -/
theorem rd_isN {d : PyData} {b : Bool} (h : d = .none ∧ b = true ∨ (∃ z, d = .str z) ∧ b = false) : RD (fun x y H Q => y = .non ∧ Q (.bl (decide (x = .non))) H) (.im d) (.im .none) (.im (.bool b)) := fun M x y H T hx hy Q q => by
  cases hy
  refine ⟨rfl, ?_⟩
  rcases h with ⟨rfl, rfl⟩ | ⟨⟨z, rfl⟩, rfl⟩
  · cases hx
    exact q _ _ H rfl (Same.refl _) (.bl _)
  · cases hx
    exact q _ _ H rfl (Same.refl _) (.bl _)
end

/-! ### calls of built-ins by values -/
def RCl (r : List V → Hp → VK → Prop) (ts : List Ty) (Φ : Ty → Prop) : Prop := ∀ (M : List Addr) (vs : List V) (H : Hp), Trk M H → Hold (hid M H) vs ts → ∀ Q : VK, (∀ w v H', Φ w → Same H H' → w.holds v (hid M H') → Q v H') → r vs H Q
section
variable {H0 : Hp} {x : List Addr} {ss : SS} {ta : TA} {te : TE} {t : Ty} {Φ : Ty → Prop} {r : List V → Hp → VK → Prop}
theorem ev_cb {Ψ : List Ty → Prop} (h : EvA H0 x ss ta Ψ) (k : ∀ ts, Ψ ts → RCl r ts Φ) : Ev H0 x ss (tCB r ta) Φ := fun σ H S Q q =>
  h σ H S _ fun ts vs H1 p S1 e h1 => k ts p (ss.M x) vs H1 S1.trk h1 Q fun w v H2 p2 e2 h2 => q w v H2 p2 (S1.pure e2) (e.trans (hid_mono e2)) h2
theorem ev_cbD {ts : List Ty} {w : Ty} (h : EaD H0 x ss ta ts) (k : RCl r ts (fun z => z = w)) : EvD H0 x ss (tCB r ta) w := ev_cb h fun ts' e => by
  subst e
  exact k
theorem hold1 {H : Hp} {vs : List V} {t : Ty} (h : Hold H vs [t]) : ∃ v, vs = [v] ∧ t.holds v H := by
  match vs, h with
  | [v], h => exact ⟨v, rfl, h.1⟩
theorem hold2 {H : Hp} {vs : List V} {t u : Ty} (h : Hold H vs [t, u]) : ∃ v w, vs = [v, w] ∧ t.holds v H ∧ u.holds w H := by
  match vs, h with
  | [v, w], h => exact ⟨v, w, rfl, h.1, h.2.1⟩
end
section
variable {K : PySem.W.Frag} {ds : List PyData}
theorem rc_lenL : RCl (fun xs H Q => ∃ p ys, xs = [.ref p] ∧ (SqL K H p ys ∨ SqT K H p ys) ∧ Q (.int ys.length) H) [.im (.list ds)] (fun z => z = .im (.int ds.length)) := fun M vs H T h Q q => by
  obtain ⟨v, rfl, h'⟩ := hold1 h
  cases h' with
  | lst h1 h2 =>
    refine ⟨_, _, rfl, .inl (.inl (.inl (hid_some h1).2)), ?_⟩
    rw [dps_len h2]
    exact q _ _ H rfl (Same.refl _) (.int _)
theorem rc_lenT : RCl (fun xs H Q => ∃ p ys, xs = [.ref p] ∧ (SqL K H p ys ∨ SqT K H p ys) ∧ Q (.int ys.length) H) [.im (.tuple ds)] (fun z => z = .im (.int ds.length)) := fun M vs H T h Q q => by
  obtain ⟨v, rfl, h'⟩ := hold1 h
  cases h' with
  | tup h1 h2 =>
    refine ⟨_, _, rfl, .inr (.inl (.inl (hid_some h1).2)), ?_⟩
    rw [dps_len h2]
    exact q _ _ H rfl (Same.refl _) (.int _)
theorem rc_lenS {z : Str} (hz : z.length ≤ 100000) : RCl (fun xs H Q => ∃ z, xs = [.str z] ∧ z.length ≤ sizeLine ∧ Q (.int z.length) H) [.im (.str z)] (fun y => y = .im (.int z.length)) := fun M vs H T h Q q => by
  obtain ⟨v, rfl, h'⟩ := hold1 h
  cases h'
  exact ⟨z, rfl, Nat.le_trans hz (by decide), q _ _ H rfl (Same.refl _) (.int _)⟩
theorem rc_tupL : RCl (fun xs H Q => ∃ p ys, xs = [.ref p] ∧ ((SqL K H p ys ∧ ∀ l, H l = none → Q (.ref l) (upd H l (.tup ys))) ∨ (SqT K H p ys ∧ Q (.ref p) H))) [.im (.list ds)] (fun z => z = .im (.tuple ds)) := fun M vs H T h Q q => by
  obtain ⟨v, rfl, h'⟩ := hold1 h
  cases h' with
  | lst h1 h2 => exact ⟨_, _, rfl, .inl ⟨.inl (.inl (hid_some h1).2), fun l hl => q _ _ _ rfl (same_new hl) (.tup (hid_new T hl) (dps_mono (hid_mono (same_new hl)) h2))⟩⟩
theorem rc_lstT : RCl (fun xs H Q => ∃ p ys, xs = [.ref p] ∧ (SqL K H p ys ∨ SqT K H p ys) ∧ ∀ l, H l = none → Q (.ref l) (upd H l (.lst ys))) [.im (.tuple ds)] (fun z => z = .im (.list ds)) := fun M vs H T h Q q => by
  obtain ⟨v, rfl, h'⟩ := hold1 h
  cases h' with
  | tup h1 h2 => exact ⟨_, _, rfl, .inr (.inl (.inl (hid_some h1).2)), fun l hl => q _ _ _ rfl (same_new hl) (.lst (hid_new T hl) (dps_mono (hid_mono (same_new hl)) h2))⟩
theorem dqs_ints {H : Hp} : ∀ {vs : List V} {ns : List Int}, DqAll H vs (ns.map PyData.int) → vs = ns.map V.int
  | _, [], h => by
    cases h
    rfl
  | _, n :: ns, h => by
    cases h with
    | cons h1 h2 =>
      cases h1
      rw [dqs_ints h2]
      rfl
theorem dqs_strs {H : Hp} : ∀ {vs : List V} {ns : List Str}, DqAll H vs (ns.map PyData.str) → vs = ns.map V.str
  | _, [], h => by
    cases h
    rfl
  | _, n :: ns, h => by
    cases h with
    | cons h1 h2 =>
      cases h1
      rw [dqs_strs h2]
      rfl
theorem strs_dqs {H : Hp} : ∀ ns : List Str, DqAll H (ns.map V.str) (ns.map PyData.str)
  | [] => .nil
  | n :: ns => .cons (.str n) (strs_dqs ns)
theorem ints_dqs {H : Hp} : ∀ ns : List Int, DqAll H (ns.map V.int) (ns.map PyData.int)
  | [] => .nil
  | n :: ns => .cons (.int n) (ints_dqs ns)
theorem rc_sum {ns : List Int} : RCl (rSum K) [.im (.list (ns.map PyData.int))] (fun z => z = .im (.int ns.sum)) := fun M vs H T h Q q => by
  obtain ⟨v, rfl, h'⟩ := hold1 h
  cases h' with
  | lst h1 h2 =>
    have e := dqs_ints h2
    subst e
    exact ⟨_, ns, rfl, .inl (.inl (hid_some h1).2), q _ _ H rfl (Same.refl _) (.int _)⟩
theorem rc_abs {i : Int} : RCl (fun xs H Q => ∃ i, xs = [.int i] ∧ Q (.int (if i < 0 then -i else i)) H) [.im (.int i)] (fun z => z = .im (.int (if i < 0 then -i else i))) := fun M vs H T h Q q => by
  obtain ⟨v, rfl, h'⟩ := hold1 h
  cases h'
  exact ⟨i, rfl, q _ _ H rfl (Same.refl _) (.int _)⟩
theorem rc_int {i : Int} : RCl (fun xs H Q => (∃ i, xs = [.int i] ∧ Q (.int i) H) ∨ ∃ k, xs = [.bl k] ∧ Q (.int (if k then 1 else 0)) H) [.im (.int i)] (fun z => z = .im (.int i)) := fun M vs H T h Q q => by
  obtain ⟨v, rfl, h'⟩ := hold1 h
  cases h'
  exact .inl ⟨i, rfl, q _ _ H rfl (Same.refl _) (.int _)⟩
theorem rc_min2 {i j : Int} : RCl (fun xs H Q => ∃ i j, xs = [.int i, .int j] ∧ Q (.int (if j < i then j else i)) H) [.im (.int i), .im (.int j)] (fun z => z = .im (.int (if j < i then j else i))) := fun M vs H T h Q q => by
  obtain ⟨v, w, rfl, h1, h2⟩ := hold2 h
  cases h1
  cases h2
  exact ⟨i, j, rfl, q _ _ H rfl (Same.refl _) (.int _)⟩
end

/-! ### slices -/
section
variable {H0 : Hp} {x : List Addr} {ss : SS} {te : TE} {tl th : TO} {t : Ty} {K : PySem.W.Frag} {lo hi : Option Int} {ds : List PyData}
def EvO (H0 : Hp) (x : List Addr) (ss : SS) (to : TO) (o : Option Int) : Prop := ∀ σ H, Sat H0 x ss σ H → ∀ Q : Option Int → Hp → Prop, (∀ H', Sat H0 x ss σ H' → Fr ss H H' → Q o H') → to σ H Q
theorem eo_no : EvO H0 x ss tNoPart none := fun σ H S Q q => q H S (Same.refl _)
theorem eo_at {i : Int} (h : EvD H0 x ss te (.im (.int i))) : EvO H0 x ss (tPart te) (some i) := fun σ H S Q q =>
  h σ H S _ fun t v H1 p S1 e r => by
    subst p
    cases r
    exact ⟨i, rfl, q H1 S1 e⟩
def RSl (r : V → Option Int → Option Int → Hp → VK → Prop) (t : Ty) (lo hi : Option Int) (w : Ty) : Prop := ∀ (M : List Addr) (a : V) (H : Hp), Trk M H → t.holds a (hid M H) → ∀ Q : VK, (∀ v H', Same H H' → w.holds v (hid M H') → Q v H') → r a lo hi H Q
theorem ev_sl {r : V → Option Int → Option Int → Hp → VK → Prop} {w : Ty} (h : EvD H0 x ss te t) (h1 : EvO H0 x ss tl lo) (h2 : EvO H0 x ss th hi) (k : RSl r t lo hi w) : EvD H0 x ss (tSl r te tl th) w := fun σ H S Q q =>
  h σ H S _ fun t' v H1 p S1 e1 r1 => by
    subst p
    exact h1 σ H1 S1 _ fun H2 S2 e2 => h2 σ H2 S2 _ fun H3 S3 e3 => k (ss.M x) v H3 S3.trk (Ty.mono (Fr.m (e2.trans e3)) r1) Q fun z H4 e4 r4 => q w z H4 rfl (S3.pure e4) (((e1.trans e2).trans e3).trans (hid_mono e4)) r4
def cutD {α : Type} (xs : List α) (lo hi : Option Int) : List α := (xs.drop (HT.sIx xs.length 0 lo)).take (HT.sIx xs.length xs.length hi - HT.sIx xs.length 0 lo)
theorem cut_dps {H : Hp} {vs : List V} (h : DqAll H vs ds) : DqAll H (cutV vs lo hi) (cutD ds lo hi) := by
  unfold cutV cutD
  rw [dps_len h]
  exact dps_take _ (dps_drop _ h)
theorem cutD_map {α β : Type} (f : α → β) (xs : List α) : cutD (xs.map f) lo hi = (cutD xs lo hi).map f := by
  unfold cutD
  rw [List.length_map, List.map_take, List.map_drop]
theorem cutD_whole {α : Type} {xs : List α} (h : HT.sIx xs.length 0 lo = 0 ∧ HT.sIx xs.length xs.length hi = xs.length) : cutD xs lo hi = xs := by
  unfold cutD
  rw [h.1, h.2, List.drop_zero, Nat.sub_zero, List.take_length]
theorem rs_tup : RSl (rSlA K) (.im (.tuple ds)) lo hi (.im (.tuple (cutD ds lo hi))) := fun M a H T h Q q => by
  cases h with
  | tup h1 h2 =>
    refine ⟨_, _, rfl, .inl (.inl (hid_some h1).2), fun w => ?_, fun _ p hp => ?_⟩
    · refine q _ H (Same.refl _) ?_
      rw [dps_len h2] at w
      rw [cutD_whole w]
      exact .tup h1 h2
    · exact q _ _ (same_new hp) (.tup (hid_new T hp) (dps_mono (hid_mono (same_new hp)) (cut_dps h2)))
theorem rs_lst : RSl (rSlL K) (.im (.list ds)) lo hi (.im (.list (cutD ds lo hi))) := fun M a H T h Q q => by
  cases h with
  | lst h1 h2 => exact ⟨_, _, rfl, .inl (.inl (hid_some h1).2), fun p hp => q _ _ (same_new hp) (.lst (hid_new T hp) (dps_mono (hid_mono (same_new hp)) (cut_dps h2)))⟩
theorem rs_str {z : Str} (hz : z.length ≤ 100000) : RSl rSlS (.im (.str z)) lo hi (.im (.str (cutS z lo hi))) := fun M a H T h Q q => by
  cases h
  exact ⟨z, rfl, Nat.le_trans hz (by decide), q _ H (Same.refl _) (.str _)⟩
end

/-! ### mine for a while as data -/
/-- no list in it -/
inductive Nl : PyData → Prop
  | non : Nl .none
  | bl (b : Bool) : Nl (.bool b)
  | int (i : Int) : Nl (.int i)
  | str (z : Str) : Nl (.str z)
  | tup {ds : List PyData} (h : ∀ d ∈ ds, Nl d) : Nl (.tuple ds)
section
variable {M N : List Addr} {H : Hp}
mutual
theorem nl_hide (h : ∀ a ∈ M, a ∉ N → ∀ xs, H a ≠ some (.tup xs)) : ∀ {v : V} {d : PyData}, Nl d → Dq (hid N H) v d → Dq (hid M H) v d
  | _, _, _, .non => .non
  | _, _, _, .bl b => .bl b
  | _, _, _, .int i => .int i
  | _, _, _, .str x => .str x
  | _, _, n, .tup e r => Dq.tup (by
      obtain ⟨e1, e2⟩ := hid_some e
      rw [hid_out fun m => h _ m e1 _ e2]
      exact e2) (nls_hide h (by cases n with | tup n => exact n) r)
  | _, _, n, .lst e r => by cases n
theorem nls_hide (h : ∀ a ∈ M, a ∉ N → ∀ xs, H a ≠ some (.tup xs)) : ∀ {vs : List V} {ds : List PyData}, (∀ d ∈ ds, Nl d) → DqAll (hid N H) vs ds → DqAll (hid M H) vs ds
  | _, _, _, .nil => .nil
  | _, _, n, .cons a r => .cons (nl_hide h (n _ List.mem_cons_self) a) (nls_hide h (fun d m => n d (List.mem_cons_of_mem _ m)) r)
end
end
theorem nl_strs (xs : List Nm) : ∀ d ∈ xs.map nD, Nl d := fun d h => by
  obtain ⟨x, _, rfl⟩ := List.mem_map.mp h
  exact .str x.1
theorem nlS (xs : List Nm) : Nl (sD xs) := .tup (nl_strs xs)
theorem nlK (k : Key2) : Nl (kD k) := .tup fun d h => by
  rcases List.mem_cons.mp h with rfl | h
  · exact .str _
  · rcases List.mem_cons.mp h with rfl | h
    · exact .str _
    · cases h
theorem nlT (k : Trn) : Nl (tD k) := .tup fun d h => by
  rcases List.mem_cons.mp h with rfl | h
  · exact .str _
  · rcases List.mem_cons.mp h with rfl | h
    · exact .str _
    · rcases List.mem_cons.mp h with rfl | h
      · exact nlS _
      · cases h
theorem MO.no_tup {Hv H : Hp} {p : Addr} : ∀ {m : MO}, m.holds Hv H p → ∀ xs : List V, H p ≠ Option.some (HO.tup xs)
  | .lst _, ⟨_, h, _⟩, _ => by rw [h]; exact fun q => (nomatch q)
  | .dK _, ⟨_, h, _⟩, _ => by rw [h]; exact fun q => (nomatch q)
  | .dT _, ⟨_, h, _⟩, _ => by rw [h]; exact fun q => (nomatch q)
  | .pr _, ⟨o, h, n, _⟩, xs => by rw [h]; exact fun q => n xs (Option.some.inj q)
section
variable {H0 H : Hp} {x : List Addr} {g : List Ty} {L : List (Addr × MO)} {b : Option (Addr × Addr)} {p : Addr} {m : MO} {i : Nat} {te : TE} {tt : TT} {Φ : Ty → Prop} {σ : L2.St}
/-- what is mine becomes data -/
theorem Sat.frz (S : Sat H0 x ⟨g, (p, m) :: L, b⟩ σ H) (hi : g[i]? = some (.rf p)) : Sat H0 x ⟨g.set i m.ty, L, b⟩ σ H := by
  obtain ⟨S1, e, hm⟩ := S.unmine (ss := ⟨g, [], b⟩)
  refine ⟨S1.fr, S1.ls, S1.nd, S1.bg, S1.tx, fun j t h => ?_, ?_⟩
  · rcases get_st (ss := ⟨g, L, b⟩) (i := i) h with ⟨rfl, rfl⟩ | ⟨_, h⟩
    · rcases S1.vr i _ hi with z | ⟨v, h1, h2⟩
      · cases z
      · have h2 : v = .ref p := h2
        subst h2
        exact .inr ⟨_, h1, MO.ty_holds hm⟩
    · exact S1.vr j t h
  · show σ.length = (g.set i m.ty).length
    rw [List.length_set]
    exact S1.ln
theorem tr_frz {u : TS} {D : Ends} (hi : g[i]? = some (.rf p)) (k : Tr H0 x ⟨g.set i m.ty, L, b⟩ u D) : Tr H0 x ⟨g, (p, m) :: L, b⟩ u D := fun σ H S => k σ H (S.frz hi)
/-- nothing but the bag has changed -/
theorem Sat.step {ss s' : SS} {σ' : L2.St} {H' : Hp} (S : Sat H0 x ss σ H) (e : Fr ss H H') (S' : Sat H0 x s' σ' H') (hb : s'.b = ss.b) : Sat H0 x ss σ H' where
  fr := fun a o n h => by
    refine S'.fr a o (fun m => n ?_) h
    obtain ⟨c, hc⟩ := bm_iff.mp m
    exact bm_iff.mpr ⟨c, hb ▸ hc⟩
  ls := fun q hq => by
    obtain ⟨h1, h2⟩ := S.ls q hq
    refine ⟨h1, MO.mono (Fr.m e) ?_ h2⟩
    cases z : H q.1 with
    | none => exact absurd z (MO.some h2)
    | some o =>
      refine (hid_some (e q.1 o ?_)).2
      rw [hid_out fun m => ?_]
      · exact z
      · obtain ⟨c, hc⟩ := bm_iff.mp m
        exact (S.bg _ c hc).2.1 h1
  nd := S.nd
  bg := fun p c h => S'.bg p c (hb.trans h)
  tx := S.tx
  vr := fun i t h => by
    rcases S.vr i t h with z | ⟨v, h1, h2⟩
    · exact .inl z
    · exact .inr ⟨v, h1, Ty.mono (Fr.m e) h2⟩
  ln := S.ln
theorem ev_frz (hi : g[i]? = some (.rf p)) (h : Ev H0 x ⟨g.set i m.ty, L, b⟩ te Φ) (k : ∀ t, Φ t → ∃ d, t = .im d ∧ Nl d) : Ev H0 x ⟨g, (p, m) :: L, b⟩ te Φ := fun σ H S Q q =>
  h σ H (S.frz hi) Q fun t v H' ht S' e r => by
    have S2 := S.step e S' rfl
    refine q t v H' ht S2 e ?_
    obtain ⟨d, rfl, hd⟩ := k t ht
    refine nl_hide (fun a ha hn xs => ?_) hd r
    rcases List.mem_cons.mp ha with z | z
    · rw [z]
      exact MO.no_tup (S2.ls (p, m) List.mem_cons_self).2 xs
    · exact absurd z hn
theorem et_frz {Ψ : Bool → Prop} (hi : g[i]? = some (.rf p)) (h : EvT H0 x ⟨g.set i m.ty, L, b⟩ tt Ψ) : EvT H0 x ⟨g, (p, m) :: L, b⟩ tt Ψ := fun σ H S Q q =>
  h σ H (S.frz hi) Q fun t H' ht S' e => q t H' ht (S.step e S' rfl) e
/-- the order of what is mine -/
theorem Sat.perm {l l' : List (Addr × MO)} (S : Sat H0 x ⟨g, l, b⟩ σ H) (e : l'.Perm l) : Sat H0 x ⟨g, l', b⟩ σ H := by
  have hM : Same (hid ((⟨g, l, b⟩ : SS).M x) H) (hid ((⟨g, l', b⟩ : SS).M x) H) := hid_sub fun a h => by
    rcases List.mem_append.mp h with h | h
    · exact List.mem_append_left _ ((e.map _).mem_iff.mp h)
    · exact List.mem_append_right _ h
  refine ⟨S.fr, fun q hq => ?_, (e.map _).nodup_iff.mpr S.nd, S.bg, S.tx, fun i t h => ?_, S.ln⟩
  · obtain ⟨h1, h2⟩ := S.ls q (e.mem_iff.mp hq)
    exact ⟨h1, MO.mono hM rfl h2⟩
  · rcases S.vr i t h with z | ⟨v, h1, h2⟩
    · exact .inl z
    · exact .inr ⟨v, h1, Ty.mono hM h2⟩
theorem tr_swap {q : Addr × MO} {q' : Addr × MO} {u : TS} {D : Ends} (k : Tr H0 x ⟨g, q' :: q :: L, b⟩ u D) : Tr H0 x ⟨g, q :: q' :: L, b⟩ u D := fun σ H S => k σ H (S.perm (List.Perm.swap _ _ _))
theorem ev_swap {q q' : Addr × MO} (h : Ev H0 x ⟨g, q' :: q :: L, b⟩ te Φ) : Ev H0 x ⟨g, q :: q' :: L, b⟩ te Φ := fun σ H S Q k =>
  h σ H (S.perm (List.Perm.swap _ _ _)) Q fun t v H' ht S' e r => k t v H' ht (S'.perm (List.Perm.swap _ _ _)) e (Ty.mono (hid_sub fun a m => by
    rcases List.mem_append.mp m with m | m
    · exact List.mem_append_left _ (((List.Perm.swap q q' L).map (·.1)).mem_iff.mpr m)
    · exact List.mem_append_right _ m) r)
theorem et_swap {q q' : Addr × MO} {Ψ : Bool → Prop} (h : EvT H0 x ⟨g, q' :: q :: L, b⟩ tt Ψ) : EvT H0 x ⟨g, q :: q' :: L, b⟩ tt Ψ := fun σ H S Q k =>
  h σ H (S.perm (List.Perm.swap _ _ _)) Q fun t H' ht S' e => k t H' ht (S'.perm (List.Perm.swap _ _ _)) e
end

/-! ### lists of mine -/
section
variable {H0 : Hp} {x : List Addr} {ss : SS} {g : List Ty} {L : List (Addr × MO)} {b : Option (Addr × Addr)} {p : Addr} {i : Nat} {te ti : TE} {ta : TA} {Φ : Ty → Prop} {u : TS} {D : Ends} {K : PySem.W.Frag}
/-- y = a new list of mine -/
theorem tr_asgM {Ψ : MO → Prop} (hi : i < ss.g.length) (h : EvM H0 x ss te Ψ) (k : ∀ p m, Ψ m → Tr H0 x ⟨ss.g.set i (.rf p), (p, m) :: ss.l, ss.b⟩ u D) : Tr H0 x ss (tSeq (tAsg te (gName i)) u) D := fun σ H S =>
  h σ H S _ fun p m H' hm _ S' e => k p m hm _ _ (S'.st (ss := ⟨ss.g, (p, m) :: ss.l, ss.b⟩) (t := .rf p) hi rfl)
theorem em_lst {ds : List PyData} (h : EaD H0 x ss ta (ds.map Ty.im)) (hl : ds.length ≤ 100000 := by first | decide | (simp only [List.length_cons, List.length_nil]; decide)) : EvM H0 x ss (tLst ta) (fun m => m = .lst ds) := fun σ H S Q q =>
  h σ H S _ fun ts vs H1 p1 S1 e1 h1 => by
    subst p1
    have hd := hold_dps h1
    refine ⟨by rw [dps_len hd]; exact Nat.le_trans hl (by decide), fun p hp => ?_⟩
    have hp0 : H p = none := by
      cases z : H p with
      | none => rfl
      | some o =>
        by_cases hb : p ∈ ss.bm
        · obtain ⟨c, hc⟩ := bm_iff.mp hb
          obtain ⟨⟨_, s0, s1, s2, cs, e2, _⟩, _⟩ := S1.bg p c hc
          rw [e2] at hp
          cases hp
        · have h2 := e1 p o (by rw [hid_out hb]; exact z)
          rw [(hid_some h2).2] at hp
          cases hp
    obtain ⟨S2, e2⟩ := S1.mine (m := .lst []) (o := .lst []) hp fun M => ⟨[], upd_same, .nil⟩
    have S3 := (S2.chg (ss := ss) (m' := .lst ds) (o := .lst vs) ⟨vs, upd_same, dps_mono e2 hd⟩).1
    rw [upd_upd] at S3
    exact q p (.lst ds) _ rfl hp0 S3 (e1.trans (hid_mono (same_new hp)))
/-- l.append(e) -/
theorem tr_app {ds : List PyData} (hg : g[i]? = some (.rf p)) (hl : ds.length < 100000) (h : Ev H0 x ⟨g, (p, .lst ds) :: L, b⟩ te Φ) (k : ∀ t, Φ t → ∃ d, t = .im d ∧ Tr H0 x ⟨g, (p, .lst (ds ++ [d])) :: L, b⟩ u D) :
    Tr H0 x ⟨g, (p, .lst ds) :: L, b⟩ (tSeq (tDrop (tBM K "list" rAppend (tVar i) (tCons te tNil))) u) D := fun σ H S => by
  rcases S.vr i _ hg with z | ⟨v, h1, h2⟩
  · cases z
  have h2 : v = .ref p := h2
  subst h2
  obtain ⟨_, vs0, hp0, _⟩ := S.ls (p, .lst ds) List.mem_cons_self
  refine ⟨.ref p, h1, .inl ⟨rfl, vs0, .inl (.inl hp0)⟩, ?_⟩
  refine h σ H S _ fun t w H1 ht S1 e r => ?_
  obtain ⟨d, rfl, hk⟩ := k t ht
  obtain ⟨_, vs, hp, hds⟩ := S1.ls (p, .lst ds) List.mem_cons_self
  refine ⟨p, vs, w, rfl, rfl, hp, by rw [dps_len hds]; exact Nat.lt_trans hl (by decide), hk σ _ ?_⟩
  exact (S1.chg (ss := ⟨g, L, b⟩) (m' := .lst (ds ++ [d])) ⟨vs ++ [w], upd_same, dps_app hds (.cons r .nil)⟩).1
/-- l[j] = e -/
theorem tr_setL {ds : List PyData} {j : Nat} (hg : g[i]? = some (.rf p)) (hj : j < ds.length) (h : Ev H0 x ⟨g, (p, .lst ds) :: L, b⟩ te Φ) (hi : EvD H0 x ⟨g, (p, .lst ds) :: L, b⟩ ti (.im (.int (j : Nat)))) (k : ∀ t, Φ t → ∃ d, t = .im d ∧ Tr H0 x ⟨g, (p, .lst (ds.set j d)) :: L, b⟩ u D) :
    Tr H0 x ⟨g, (p, .lst ds) :: L, b⟩ (tSeq (tAsg te (gSub (tVar i) ti rSetL)) u) D := fun σ H S => by
  rcases S.vr i _ hg with z | ⟨v, h1, h2⟩
  · cases z
  have h2 : v = .ref p := h2
  subst h2
  refine h σ H S _ fun t w H1 ht S1 e r => ?_
  refine ⟨.ref p, h1, ?_⟩
  refine hi σ H1 S1 _ fun t2 w2 H2 e2 S2 f2 r2 => ?_
  subst e2
  cases r2
  obtain ⟨d, rfl, hk⟩ := k t ht
  obtain ⟨_, vs, hp, hds⟩ := S2.ls (p, .lst ds) List.mem_cons_self
  refine ⟨p, vs, _, j, rfl, rfl, hp, ?_, hk σ _ ?_⟩
  · rw [dps_len hds]
    unfold ixN
    rw [if_pos (by omega), if_pos (by omega), Int.toNat_natCast]
  · exact (S2.chg (ss := ⟨g, L, b⟩) (m' := .lst (ds.set j d)) ⟨vs.set j w, upd_same, dps_set j (dp_mono (Fr.m (x := x) (ss := ⟨g, (p, .lst ds) :: L, b⟩) f2) r) hds⟩).1
/-- y = l.pop() -/
theorem tr_pop {ds : List PyData} {d : PyData} {j : Nat} (hg : g[i]? = some (.rf p)) (hj : j < g.length) (hd : ds[ds.length - 1]? = some d) (k : Tr H0 x ⟨g.set j (.im d), (p, .lst ds.dropLast) :: L, b⟩ u D) :
    Tr H0 x ⟨g, (p, .lst ds) :: L, b⟩ (tSeq (tAsg (tBM0 K "list" rPop (tVar i)) (gName j)) u) D := fun σ H S => by
  rcases S.vr i _ hg with z | ⟨v, h1, h2⟩
  · cases z
  have h2 : v = .ref p := h2
  subst h2
  obtain ⟨_, vs, hp, hds⟩ := S.ls (p, .lst ds) List.mem_cons_self
  obtain ⟨w, hw, hwd⟩ := dps_at hds hd
  refine ⟨.ref p, h1, .inl ⟨rfl, vs, .inl (.inl hp)⟩, p, vs, w, rfl, rfl, hp, by rw [dps_len hds]; exact hw, k _ _ ?_⟩
  have hdl : DqAll (hid ((⟨g, (p, .lst ds) :: L, b⟩ : SS).M x) H) vs.dropLast ds.dropLast := by
    rw [List.dropLast_eq_take, List.dropLast_eq_take, dps_len hds]
    exact dps_take _ hds
  obtain ⟨S1, e1⟩ := S.chg (ss := ⟨g, L, b⟩) (m' := .lst ds.dropLast) (o := .lst vs.dropLast) ⟨vs.dropLast, upd_same, hdl⟩
  refine S1.st (ss := ⟨g, (p, .lst ds.dropLast) :: L, b⟩) (t := .im d) hj ?_
  show Dq (hid ((⟨g, (p, .lst ds.dropLast) :: L, b⟩ : SS).M x) _) w d
  rw [e1]
  exact hwd
end
end Sx
set_option Elab.async false
set_option linter.all false
set_option maxRecDepth 100000
set_option maxHeartbeats 1000000
/-! Rules for what the bundles lack: sorted of data, tuple(zip(..)), dicts and sets with tuple keys. -/
theorem L2.Room.units1 {k : Nat} {A : PySem.Around} (r : L2.Room k A) : A.units + 65 < PySem.cLine := by
  have := r.un
  omega
namespace Sx
open PySem L2 PySem.W

/-! ### names of readings -/
abbrev rcLen (K : PySem.W.Frag) : List V → Hp → VK → Prop := fun xs H Q => ∃ p ys, xs = [.ref p] ∧ (SqL K H p ys ∨ SqT K H p ys) ∧ Q (.int ys.length) H
abbrev rcLenS : List V → Hp → VK → Prop := fun xs H Q => ∃ z, xs = [.str z] ∧ z.length ≤ sizeLine ∧ Q (.int z.length) H
abbrev rcTup (K : PySem.W.Frag) : List V → Hp → VK → Prop := fun xs H Q => ∃ p ys, xs = [.ref p] ∧ ((SqL K H p ys ∧ ∀ l, H l = none → Q (.ref l) (upd H l (.tup ys))) ∨ (SqT K H p ys ∧ Q (.ref p) H))
abbrev rcLst (K : PySem.W.Frag) : List V → Hp → VK → Prop := fun xs H Q => ∃ p ys, xs = [.ref p] ∧ (SqL K H p ys ∨ SqT K H p ys) ∧ ∀ l, H l = none → Q (.ref l) (upd H l (.lst ys))
abbrev rcInt : List V → Hp → VK → Prop := fun xs H Q => (∃ i, xs = [.int i] ∧ Q (.int i) H) ∨ ∃ k, xs = [.bl k] ∧ Q (.int (if k then 1 else 0)) H
abbrev rcAbs : List V → Hp → VK → Prop := fun xs H Q => ∃ i, xs = [.int i] ∧ Q (.int (if i < 0 then -i else i)) H
abbrev rcMin2 : List V → Hp → VK → Prop := fun xs H Q => ∃ i j, xs = [.int i, .int j] ∧ Q (.int (if j < i then j else i)) H
abbrev rInsert : V → List V → Hp → VK → Prop := fun x vs H Q => ∃ (l : Addr) (xs : List V) (i : Int) (y : V), x = .ref l ∧ vs = [.int i, y] ∧ H l = some (.lst xs) ∧ xs.length < sizeLine ∧ 0 ≤ i ∧ i < 2 ^ 63 ∧
    Q .non (upd H l (.lst (xs.take i.toNat ++ [y] ++ xs.drop i.toNat)))
/-- the built-ins that the text uses are not hidden by a module's name -/
structure Bl (mg : Str → Option Value) : Prop where
  m_len : mg "len" = none
  m_tuple : mg "tuple" = none
  m_sorted : mg "sorted" = none
  m_zip : mg "zip" = none
  m_set : mg "set" = none
  m_range : mg "range" = none
  m_list : mg "list" = none
  m_dict : mg "dict" = none
  m_enumerate : mg "enumerate" = none
  m_sum : mg "sum" = none
  m_min : mg "min" = none
  m_abs : mg "abs" = none
  m_int : mg "int" = none
  m_repr : mg "repr" = none

/-! ### sorted(l) of data -/
section
variable {X : Cx} {pins : List (Addr × Obj)} {σ : L2.St} {H : Hp} {s : Shared}
theorem each_of {R : Value → PyData → Prop} : ∀ {us : List Value} {vs : List V} {ds : List PyData}, Vals vs us → DqAll H vs ds → (∀ u v d, RelV v u → Dq H v d → R u d) → EachIs R us ds
  | _, _, _, .nil, .nil, _ => .nil
  | _, _, _, .cons r rs, .cons h hs, k => .cons (k _ _ _ r h) (each_of rs hs k)
theorem of_each : ∀ {us : List Value} {ds : List PyData}, EachIs (fun u d => ∃ v, RelV v u ∧ Dq H v d) us ds → ∃ vs, Vals vs us ∧ DqAll H vs ds
  | _, _, .nil => ⟨[], .nil, .nil⟩
  | _, _, .cons h hs => by
    obtain ⟨v, r, q⟩ := h
    obtain ⟨vs, rs, qs⟩ := of_each hs
    exact ⟨v :: vs, .cons r rs, .cons q qs⟩
/-- what sorted asks of the data, what it gives -/
def rSortD : List V → Hp → VK → Prop := fun xs H Q => ∃ (M : List Addr) (p : Addr) (ds : List PyData), xs = [.ref p] ∧ Dq (hid M H) (.ref p) (.list ds) ∧ AllAlike ds ∧ Sortable ds ∧ ds.length ≤ 100000 ∧ (∀ d ∈ ds, d.depth ≤ 40) ∧
  ∀ q ys, H q = none → DqAll (hid M H) ys (ds.mergeSort (dataLe false id)) → Q (.ref q) (upd H q (.lst ys))
theorem cr_sortD (hu : X.A.units + 65 < cLine) : CallR X (.builtin "sorted") rSortD := by
  intro pins s σ H xs us Q I r h
  obtain ⟨M, p, ds, rfl, hp, ha, hk, hz, hd, q⟩ := h
  rw [Vals.ref1 r]
  cases hp with
  | lst h1 h2 =>
    rename_i vs
    obtain ⟨its, rv, pl, _⟩ := I.list (.inl (.inl (hid_some h1).2))
    have e0 : ds.map id = ds := List.map_id ds
    refine sorted_data (enc := id) (bs := ds) (R := fun u d => ∃ v, RelV v u ∧ Dq (hid M H) v d) pl.isList (each_of rv h2 fun u v d r q => ⟨v, r, q⟩) (each_of rv h2 fun u v d r q => ?_) (by rw [e0]; exact ha) (by rw [e0]; exact hk) (Nat.le_trans hz (by decide)) (fun d m => ?_) fun out hl ho => ?_
    · obtain ⟨as, hr⟩ := Dp.reads I d v u (dp_mono same_hid q).dp r
      exact ⟨as, hr⟩
    · have := hd d m
      show X.A.units + 2 + d.depth < cLine
      omega
    · obtain ⟨ys, ry, hy⟩ := of_each ho
      obtain ⟨ep, he⟩ := PyProof.Rows.sortedAll_at s.heap its out.toArray
      have hlen : ys.length ≤ sizeLine := by
        rw [ry.length, hl]
        exact Nat.le_trans hz (by decide)
      exact ⟨.ref _, upd H (s.heap.objs.size + 1) (.lst ys), I.laid (t' := s.toks) (fun _ _ => PyProof.Rows.sortedAll_old) (Nat.le_succ _) ⟨hlen, out, ep, ry, he⟩, rfl, q _ ys (I.hok.fresh (Nat.le_succ _)) hy⟩
end
theorem rc_sortD {ds : List PyData} (ha : AllAlike ds) (hk : Sortable ds) (hz : ds.length ≤ 100000) (hd : ∀ d ∈ ds, d.depth ≤ 40) : RCl rSortD [.im (.list ds)] (fun z => z = .im (.list (ds.mergeSort (dataLe false id)))) := fun M vs H T h Q q => by
  obtain ⟨v, rfl, h'⟩ := hold1 h
  have h' : Dq (hid M H) v (.list ds) := h'
  cases h' with
  | lst h1 h2 => exact ⟨M, _, ds, rfl, .lst h1 h2, ha, hk, hz, hd, fun p ys hp hy => q _ _ _ rfl (same_new hp) (.lst (hid_new T hp) (dps_mono (hid_mono (same_new hp)) hy))⟩
/-- kinds of data that sort -/
structure Srt {α : Type} (f : α → PyData) : Prop where
  al : ∀ a b, alike (f a) (f b) = true
  sb : (∀ a, ∃ x r, f a = .tuple (x :: r)) ∨ ∀ a, f a ≠ .none ∧ ∀ xs, f a ≠ .tuple xs
def leD {α : Type} (f : α → PyData) : α → α → Bool := dataLe false f
theorem sort_map {α : Type} (f : α → PyData) (as : List α) : (as.map f).mergeSort (dataLe false id) = (as.mergeSort (leD f)).map f :=
  (List.map_mergeSort (f := f) (r := leD f) (s := dataLe false id) (l := as) fun a _ b _ => rfl).symm
theorem Srt.rc {α : Type} [DecidableEq α] {f : α → PyData} {n : Nat} (S : Srt f) (e : Enc f n) {as : List α} (hz : as.length ≤ 100000) (hn : n ≤ 40 := by decide) : RCl rSortD [.im (.list (as.map f))] (fun z => z = .im (.list ((as.mergeSort (leD f)).map f))) := by
  rw [← sort_map]
  refine rc_sortD (AllAlike.of S.al) ?_ (by rw [List.length_map]; exact hz) fun d h => ?_
  · rcases S.sb with h | h
    · exact Sortable.tuples h
    · exact Sortable.others h
  · obtain ⟨a, _, rfl⟩ := List.mem_map.mp h
    exact Nat.le_trans (e.dep a) hn
theorem srtN : Srt nD := ⟨fun _ _ => rfl, .inr fun a => ⟨fun h => (nomatch h), fun xs h => (nomatch h)⟩⟩
theorem alike_names : ∀ xs ys : List Nm, alikeAll (xs.map nD) (ys.map nD) = true
  | [], _ => by simp [alikeAll]
  | _ :: _, [] => by simp [alikeAll]
  | x :: xs, y :: ys => by
    rw [List.map_cons, List.map_cons, alikeAll, alike_names xs ys]
    rfl
theorem srtK : Srt kD := ⟨fun a b => by simp [kD, alike, alikeAll], .inl fun a => ⟨_, _, rfl⟩⟩
theorem srtC : Srt cD := ⟨fun a b => by simp [cD, alike, alikeAll], .inl fun a => ⟨_, _, rfl⟩⟩
theorem srtT : Srt tD := ⟨fun a b => by
  show (true && (true && (alikeAll (a.2.2.map nD) (b.2.2.map nD) && true))) = true
  rw [alike_names]
  rfl, .inl fun a => ⟨_, _, rfl⟩⟩

/-! ### x not in a tuple -/
def rNotInTD (K : PySem.W.Frag) : R2 := fun x y H Q => ∃ d ds, Dp K H x d ∧ Dp K H y (.tuple ds) ∧ SeqAt.shaped d = true ∧ SeqAt.shaped (.tuple ds) = true ∧ Q (.bl (!ds.any fun z => PyData.eqv z d)) H
theorem op_notInTD {X : Cx} (hu : X.A.units + 65 < cLine) : OpR X (compareOp .NotIn) (rNotInTD X.K) := by
  intro pins s σ H x y v u Q I rx ry ⟨d, ds, hd, he, sd, se, q⟩
  obtain ⟨as, r1⟩ := Dp.reads I d x v hd rx
  obtain ⟨bs, r2⟩ := Dp.reads I (.tuple ds) y u he ry
  refine SeqAt.notIn_tuple_reads r2 r1 (SeqAt.canLay_of_shaped se) (SeqAt.canLay_of_shaped sd) ?_ ⟨.bl _, H, I, rfl, q⟩
  have h1 := SeqAt.depth_of_shaped sd
  have h2 : min (PyData.depthAll ds) d.depth ≤ d.depth := Nat.min_le_right _ _
  omega
theorem rd_niT {K : PySem.W.Frag} {α : Type} [DecidableEq α] {f : α → PyData} {n : Nat} {a : α} (e : Enc f n) {as : List α} (hn : n ≤ 59 := by decide) : RD (rNotInTD K) (.im (f a)) (.im (.tuple (as.map f))) (.im (.bool (!decide (a ∈ as)))) := fun M x y H T hx hy Q q =>
  ⟨f a, as.map f, (dp_mono same_hid hx).dp, (dp_mono same_hid hy).dp, e.sh (by omega) a, e.tl.sh (by omega) as, by
    rw [e.any]
    exact q _ _ H rfl (Same.refl _) (.bl _)⟩

/-! ### l[i], for l[i] += e -/
def rGetL : V → V → Hp → VK → Prop := fun o i H Q => ∃ p xs v, ∃ j : Nat, o = .ref p ∧ i = .int j ∧ H p = some (.lst xs) ∧ j < 1000 ∧ xs[j]? = some v ∧ Q v H
theorem get_list {X : Cx} : PGet X rGetL := by
  intro pins s σ H o i ov iv Q I ro ri h
  obtain ⟨p, xs, v, j, rfl, rfl, hs, hj, ha, q⟩ := h
  cases ro
  obtain ⟨t, rfl⟩ := ri
  obtain ⟨its, rv, pl, hz⟩ := I.list (.inl (.inl hs))
  obtain ⟨u, hu, ru⟩ := rv.get ha
  exact wpAny_getItem_list pl.isList (by omega) (by omega) (by rw [Int.toNat_natCast]; simpa using hu) ⟨v, H, I, ru, q⟩
/-! ### a text times a number -/
def repT (z : Str) (n : Int) : Str := ⟨((List.replicate n.toNat z.cps.toList).flatten).toArray⟩
theorem fold_cat (z : List Nat) : ∀ (n : Nat) (acc : Array Nat), ((List.replicate n z.toArray).foldl (· ++ ·) acc).toList = acc.toList ++ (List.replicate n z).flatten
  | 0, acc => by simp
  | n + 1, acc => by
    rw [List.replicate_succ, List.foldl_cons, fold_cat z n, List.replicate_succ, List.flatten_cons, Array.toList_append, List.append_assoc]
def rRepS : R2 := fun x y H Q => ∃ (z : Str) (n : Int), x = .str z ∧ y = .int n ∧ 1 ≤ n ∧ n ≤ 1000 ∧ z.length ≤ 1000 ∧ Q (.str (repT z n)) H
theorem op_repS {X : Cx} : OpR X (binaryOp .Mult) rRepS := by
  intro pins s σ H x y v u Q I rx ry h
  obtain ⟨z, n, rfl, rfl, h0, h1, hz, q⟩ := h
  obtain ⟨t, rfl⟩ := rx
  obtain ⟨t', rfl⟩ := ry
  have hb : z.length * n.toNat ≤ 1000 * 1000 := Nat.mul_le_mul hz (by omega)
  refine P.mul_str (by rw [decide_eq_false (by omega), decide_eq_false (by omega)]; rfl) (fun _ _ => ?_) (fun _ _ => decide_eq_false (by show ¬ z.length * n.toNat > sizeLine; rw [sizeLine_eq]; omega)) ?_
  · have h2 : (2 ^ 63 - 1 : Int) / n ≥ (2 ^ 63 - 1) / 1000 := by
      apply Int.le_ediv_of_mul_le (by omega)
      have : (2 ^ 63 - 1 : Int) / 1000 = 9223372036854775 := by decide
      rw [this]
      omega
    have h3 : (2 ^ 63 - 1 : Int) / 1000 = 9223372036854775 := by decide
    rw [h3] at h2
    omega
  · rw [if_neg (by omega)]
    by_cases h2 : (n == 1 || z.length == 0) = true
    · rw [if_pos h2]
      have e : repT z n = z := by
        have key : (repT z n).cps.toList = z.cps.toList := by
          show (((List.replicate n.toNat z.cps.toList).flatten).toArray).toList = _
          rcases Bool.or_eq_true_iff.mp h2 with h | h
          · have hn : n = 1 := by simpa using h
            subst hn
            simp
          · have hn : z.cps.toList = [] := by
              have h : z.length = 0 := by simpa using h
              have h : z.cps.size = 0 := h
              rw [← Array.length_toList] at h
              exact List.length_eq_zero_iff.mp h
            rw [hn]
            simp
        exact str_of_cps key
      rw [e] at q
      exact ⟨.str z, H, I, ⟨t, rfl⟩, q⟩
    · rw [if_neg h2]
      have e : repT z n = ⟨(List.replicate n.toNat z.cps).foldl (· ++ ·) #[]⟩ := by
        refine str_of_cps ?_
        show (((List.replicate n.toNat z.cps.toList).flatten).toArray).toList = _
        have h := fold_cat z.cps.toList n.toNat #[]
        rw [Array.toArray_toList] at h
        rw [h]
        simp
      rw [e] at q
      have hlen : (⟨(List.replicate n.toNat z.cps).foldl (· ++ ·) #[]⟩ : Str).length ≤ sizeLine := by
        rw [← e]
        show (((List.replicate n.toNat z.cps.toList).flatten).toArray).size ≤ _
        rw [List.size_toArray, List.length_flatten, List.map_replicate, List.sum_replicate_nat, Array.length_toList, sizeLine_eq]
        have e3 : z.cps.size = z.length := rfl
        rw [e3, Nat.mul_comm]
        omega
      exact ⟨hlen, .str _, H, I.tok _, ⟨_, rfl⟩, q⟩
theorem rd_repS {z : Str} {n : Int} (h0 : 1 ≤ n) (h1 : n ≤ 1000) (hz : z.length ≤ 1000) : RD rRepS (.im (.str z)) (.im (.int n)) (.im (.str (repT z n))) := fun M x y H T hx hy Q q => by
  cases hx
  cases hy
  exact ⟨z, n, rfl, rfl, h0, h1, hz, q _ _ H rfl (Same.refl _) (.str _)⟩
/-! ### sep.join(..) of a list of texts -/
def tJoin (K : PySem.W.Frag) (to te : TE) : TE := tM1 (fun x xs H Q => ∃ a p, ∃ ys : List Str, x = .str a ∧ xs = [.ref p] ∧ (SqL K H p (ys.map V.str) ∨ SqT K H p (ys.map V.str)) ∧
      (ys.map (·.length)).sum + ys.length * a.length ≤ 16777216 ∧ Q (.str (Txt.join a ys)) H) to te
theorem ev_join {K : PySem.W.Frag} {H0 : Hp} {x : List Addr} {ss : SS} {to te : TE} {a : Str} {Ψ : Ty → Prop} {Φ : Ty → Prop} (h1 : EvD H0 x ss to (.im (.str a))) (h2 : Ev H0 x ss te Ψ)
    (k : ∀ t, Ψ t → ∃ ys : List Str, t = .im (.list (ys.map PyData.str)) ∧ (ys.map (·.length)).sum + ys.length * a.length ≤ 16777216 ∧ Φ (.im (.str (Txt.join a ys)))) : Ev H0 x ss (tJoin K to te) Φ := fun σ H S Q q =>
  h1 σ H S _ fun t v H1 p S1 e r => by
    subst p
    cases r
    refine ⟨⟨a, rfl⟩, ?_⟩
    refine h2 σ H1 S1 _ fun t v H2 p S2 e2 r => ?_
    obtain ⟨ys, rfl, hz, hΦ⟩ := k t p
    have r : Dq _ v _ := r
    cases r with
    | lst r1 r2 =>
      have e3 := dqs_strs r2
      subst e3
      exact ⟨a, _, ys, rfl, rfl, .inl (.inl (.inl (hid_some r1).2)), hz, q _ _ H2 hΦ S2 (e.trans e2) (.str _)⟩
/-! ### short forms -/
section
variable {H0 : Hp} {x : List Addr} {ss : SS} {ta tb tc te : TE} {d1 d2 d3 : PyData}
theorem ev_tup0 : EvD H0 x ss (tTup tNil) (.im (.tuple [])) := ev_tup (ds := []) ea_nil
theorem ev_tup1 (h1 : EvD H0 x ss ta (.im d1)) : EvD H0 x ss (tTup (tCons ta tNil)) (.im (.tuple [d1])) := ev_tup (ds := [d1]) (ea_cons h1 ea_nil)
theorem ev_tup2 (h1 : EvD H0 x ss ta (.im d1)) (h2 : EvD H0 x ss tb (.im d2)) : EvD H0 x ss (tTup (tCons ta (tCons tb tNil))) (.im (.tuple [d1, d2])) := ev_tup (ds := [d1, d2]) (ea_cons h1 (ea_cons h2 ea_nil))
theorem ev_tup3 (h1 : EvD H0 x ss ta (.im d1)) (h2 : EvD H0 x ss tb (.im d2)) (h3 : EvD H0 x ss tc (.im d3)) : EvD H0 x ss (tTup (tCons ta (tCons tb (tCons tc tNil)))) (.im (.tuple [d1, d2, d3])) := ev_tup (ds := [d1, d2, d3]) (ea_cons h1 (ea_cons h2 (ea_cons h3 ea_nil)))
theorem ev_lst0 : EvD H0 x ss (tLst tNil) (.im (.list [])) := ev_lst (ds := []) ea_nil
theorem ev_lst1 (h1 : EvD H0 x ss ta (.im d1)) : EvD H0 x ss (tLst (tCons ta tNil)) (.im (.list [d1])) := ev_lst (ds := [d1]) (ea_cons h1 ea_nil)
theorem ev_lst2 (h1 : EvD H0 x ss ta (.im d1)) (h2 : EvD H0 x ss tb (.im d2)) : EvD H0 x ss (tLst (tCons ta (tCons tb tNil))) (.im (.list [d1, d2])) := ev_lst (ds := [d1, d2]) (ea_cons h1 (ea_cons h2 ea_nil))
theorem ev_lst3 (h1 : EvD H0 x ss ta (.im d1)) (h2 : EvD H0 x ss tb (.im d2)) (h3 : EvD H0 x ss tc (.im d3)) : EvD H0 x ss (tLst (tCons ta (tCons tb (tCons tc tNil)))) (.im (.list [d1, d2, d3])) := ev_lst (ds := [d1, d2, d3]) (ea_cons h1 (ea_cons h2 (ea_cons h3 ea_nil)))
theorem em_lst0 : EvM H0 x ss (tLst tNil) (fun m => m = .lst []) := em_lst (ds := []) ea_nil
theorem em_lst1 (h1 : EvD H0 x ss ta (.im d1)) : EvM H0 x ss (tLst (tCons ta tNil)) (fun m => m = .lst [d1]) := em_lst (ds := [d1]) (ea_cons h1 ea_nil)
/-- t[i] of a tuple, a written i -/
theorem ev_ixT {K : PySem.W.Frag} {ds : List PyData} {d : PyData} {i : Int} (h : EvD H0 x ss ta (.im (.tuple ds))) (hd : atI ds i = some d := by rfl) : EvD H0 x ss (tOp (rIxT K) ta (tC (.int i))) (.im d) := ev_opD h ev_int (rd_ixT hd)
theorem ev_eqE {K : PySem.W.Frag} {α : Type} [DecidableEq α] {f : α → PyData} {n : Nat} {a b : α} (e : Enc f n) (h1 : EvD H0 x ss ta (.im (f a))) (h2 : EvD H0 x ss tb (.im (f b))) (hn : n ≤ 60 := by decide) : EvD H0 x ss (tOp (rEqD K) ta tb) (.im (.bool (decide (a = b)))) := ev_opD h1 h2 (rd_eq e hn)
theorem ev_neE {K : PySem.W.Frag} {α : Type} [DecidableEq α] {f : α → PyData} {n : Nat} {a b : α} (e : Enc f n) (h1 : EvD H0 x ss ta (.im (f a))) (h2 : EvD H0 x ss tb (.im (f b))) (hn : n ≤ 60 := by decide) : EvD H0 x ss (tOp (rNeD K) ta tb) (.im (.bool (!decide (a = b)))) := ev_opD h1 h2 (rd_ne e hn)
/-- a call of a pure def with one certain answer -/
theorem ev_c {ta : TA} {S : List Ty → (Ty → Prop) → Prop} {ts : List Ty} {t : Ty} {E : XK} (h : EaD H0 x ss ta ts) (k : S ts (fun u => u = t)) : EvD H0 x ss (tCall (spF S) [] E ta) t := ev_callD h k
theorem ev_lenL {K : PySem.W.Frag} {ds : List PyData} (h : EvD H0 x ss ta (.im (.list ds))) : EvD H0 x ss (tCB (rcLen K) (tCons ta tNil)) (.im (.int ds.length)) := ev_cbD (ea_cons h ea_nil) rc_lenL
theorem ev_lenT {K : PySem.W.Frag} {ds : List PyData} (h : EvD H0 x ss ta (.im (.tuple ds))) : EvD H0 x ss (tCB (rcLen K) (tCons ta tNil)) (.im (.int ds.length)) := ev_cbD (ea_cons h ea_nil) rc_lenT
theorem ev_tupL {K : PySem.W.Frag} {ds : List PyData} (h : EvD H0 x ss ta (.im (.list ds))) : EvD H0 x ss (tCB (rcTup K) (tCons ta tNil)) (.im (.tuple ds)) := ev_cbD (ea_cons h ea_nil) rc_tupL
theorem ev_lstT {K : PySem.W.Frag} {ds : List PyData} (h : EvD H0 x ss ta (.im (.tuple ds))) : EvD H0 x ss (tCB (rcLst K) (tCons ta tNil)) (.im (.list ds)) := ev_cbD (ea_cons h ea_nil) rc_lstT
theorem ev_sort {α : Type} [DecidableEq α] {f : α → PyData} {n : Nat} {as : List α} (S : Srt f) (e : Enc f n) (h : EvD H0 x ss ta (.im (.list (as.map f)))) (hz : as.length ≤ 100000) (hn : n ≤ 40 := by decide) : EvD H0 x ss (tCB rSortD (tCons ta tNil)) (.im (.list ((as.mergeSort (leD f)).map f))) := ev_cbD (ea_cons h ea_nil) (S.rc e hz hn)
/-- tuple(l) of what is drawn -/
theorem ev_tupLP {K : PySem.W.Frag} {Φ Ψ : Ty → Prop} (h : Ev H0 x ss ta Φ) (k : ∀ t, Φ t → ∃ ds, t = .im (.list ds) ∧ Ψ (.im (.tuple ds))) : Ev H0 x ss (tCB (rcTup K) (tCons ta tNil)) Ψ := ev_cb (ea_consP h ea_nil) fun ts ⟨t, r, e, p, e2⟩ => by
  obtain ⟨ds, rfl, q⟩ := k t p
  subst e2 e
  exact fun M vs H T h Q qq => rc_tupL M vs H T h Q fun w v H' z => qq w v H' (by rw [z]; exact q)
end
/-- a tuple's items of a kind -/
theorem getD_map {α : Type} (f : α → PyData) {as : List α} {i : Nat} {a : α} (h : as[i]? = some a) : (as.map f).getD i .none = f a := by
  rw [List.getD_eq_getElem?_getD, List.getElem?_map, h]
  rfl
end Sx
set_option Elab.async false
set_option linter.all false
set_option maxRecDepth 100000
set_option maxHeartbeats 1000000
/-! Loops and comprehensions over data of a kind. -/
namespace Sx
open PySem L2
section
variable {H0 : Hp} {x : List Addr} {ss : SS} {te : TE} {g : TG} {tb u : TS} {D : Ends} {K : PySem.W.Frag} {α : Type} {f : α → PyData} {as : List α}
theorem srcE {wi : TI} (h : Src H0 x ss wi (as.map f).length (fun i => .im ((as.map f).getD i .none))) : SrcP H0 x ss wi (fun n ty => n = as.length ∧ ∀ i a, as[i]? = some a → ty i = .im (f a)) := fun σ H S R r =>
  h σ H S R fun J H' Y S' e w y => r (as.map f).length _ J H' Y ⟨List.length_map .., fun i a h => by rw [getD_map f h]⟩ S' e w y
theorem srcT (h : EvD H0 x ss te (.im (.tuple (as.map f)))) : SrcP H0 x ss (iTup K te) (fun n ty => n = as.length ∧ ∀ i a, as[i]? = some a → ty i = .im (f a)) := srcE (src_tup h)
theorem srcL (h : EvD H0 x ss te (.im (.list (as.map f)))) : SrcP H0 x ss (iList K te) (fun n ty => n = as.length ∧ ∀ i a, as[i]? = some a → ty i = .im (f a)) := srcE (src_list h)
/-- a for over data of a kind -/
theorem tr_forE {wi : TI} (h : SrcP H0 x ss wi (fun n ty => n = as.length ∧ ∀ i a, as[i]? = some a → ty i = .im (f a))) (I : Nat → SS → Prop) (h0 : I 0 ss) (hb : ∀ i s, I i s → s.b = ss.b)
    (step : ∀ H1, Bs x ss.b H0 H1 → ∀ i a s, as[i]? = some a → I i s → ∃ ws s', Bd H1 x g s (.im (f a)) ws s' ∧ Tr H1 x s' tb { D with nx := Nx H1 x (I (i + 1)), ct := Nx H1 x (I (i + 1)), bk := u D })
    (done : ∀ s, I as.length s → Tr H0 x s u D) : Tr H0 x ss (tSeq (tFor wi g tb) u) D :=
  tr_for h (fun _ => I) (fun _ _ _ => h0) (fun _ => hb) (fun n ty ⟨e, k⟩ H1 B i s hi hI => by
    subst e
    have ha : as[i]? = some as[i] := List.getElem?_eq_getElem hi
    rw [k i _ ha]
    exact step H1 B i _ s ha hI) fun n ty ⟨e, _⟩ s hI => by
    subst e
    exact done s hI
/-- a list comprehension over data of a kind, each turn's answer certain -/
theorem ev_lcE {wi : TI} {tt : TT} {te : TE} {vs : List Nat} {β : Type} {h : β → PyData} {c : α → Bool} {e : α → β} (hs : SrcP H0 x ss wi (fun n ty => n = as.length ∧ ∀ i a, as[i]? = some a → ty i = .im (f a))) (hz : as.length ≤ 100000)
    (step : ∀ H1, Bs x ss.b H0 H1 → ∀ D acc a, a ∈ as → ∃ ws s', Bd H1 x g (ss.cm vs D acc) (.im (f a)) ws s' ∧ (∀ w ∈ ws, w ∈ vs) ∧ s'.l = (D, .lst acc) :: ss.l ∧ s'.b = ss.b ∧ EtD H1 x s' tt (c a) ∧ (c a = true → EvD H1 x s' te (.im (h (e a))))) :
    EvD H0 x ss (tLc wi g tt te vs) (.im (.list (((as.filter c).map e).map h))) :=
  ev_lc hs (fun _ i acc => acc = (((as.take i).filter c).map e).map h) (fun n ty ⟨e, _⟩ => ⟨by rw [e]; exact hz, by simp⟩) (fun n ty ⟨en, k⟩ H1 B D i acc hi hJ => by
    subst en
    have ha : as[i]? = some as[i] := List.getElem?_eq_getElem hi
    have hm : as[i] ∈ as := List.getElem_mem hi
    generalize as[i] = a at ha hm
    obtain ⟨ws, s', h1, h2, h3, h4, h5, h6⟩ := step H1 B D acc a hm
    have ht : as.take (i + 1) = as.take i ++ [a] := by
      rw [List.take_add_one, ha]
      rfl
    refine ⟨ws, s', by rw [k i a ha]; exact h1, h2, h3, h4, _, h5, fun e => ?_, fun e => (h6 e.symm).imp fun t et => ?_⟩
    · rw [ht, List.filter_append, List.filter_cons_of_neg (by rw [← e]; exact Bool.false_ne_true), List.filter_nil, List.append_nil]
      exact hJ
    · refine ⟨_, et, ?_⟩
      rw [ht, List.filter_append, List.filter_cons_of_pos e.symm, List.filter_nil, List.map_append, List.map_append, hJ]
      rfl) fun n ty ⟨en, _⟩ acc hJ => by
    subst en
    rw [hJ, List.take_length]
/-- .. without a test -/
theorem ev_lcM {wi : TI} {te : TE} {vs : List Nat} {β : Type} {h : β → PyData} {e : α → β} (hs : SrcP H0 x ss wi (fun n ty => n = as.length ∧ ∀ i a, as[i]? = some a → ty i = .im (f a))) (hz : as.length ≤ 100000)
    (step : ∀ H1, Bs x ss.b H0 H1 → ∀ D acc a, a ∈ as → ∃ ws s', Bd H1 x g (ss.cm vs D acc) (.im (f a)) ws s' ∧ (∀ w ∈ ws, w ∈ vs) ∧ s'.l = (D, .lst acc) :: ss.l ∧ s'.b = ss.b ∧ EvD H1 x s' te (.im (h (e a)))) :
    EvD H0 x ss (tLc wi g tYes te vs) (.im (.list ((as.map e).map h))) := by
  have q := ev_lcE (tt := tYes) (c := fun _ => true) (e := e) (h := h) hs hz fun H1 B D acc a hm => by
    obtain ⟨ws, s', h1, h2, h3, h4, h5⟩ := step H1 B D acc a hm
    exact ⟨ws, s', h1, h2, h3, h4, fun σ H S Q q => q true H rfl S (Same.refl _), fun _ => h5⟩
  rw [List.filter_eq_self.mpr (fun _ _ => rfl)] at q
  exact q
theorem et_yes : EtD H0 x ss tYes true := fun σ H S Q q => q true H rfl S (Same.refl _)
end
end Sx
set_option Elab.async false
set_option linter.all false
set_option maxRecDepth 100000
set_option maxHeartbeats 1000000
/-! Parallel assignments, dicts of data and of mine, more of lists of mine. -/
namespace Sx
open PySem L2

/-! ### entries as data -/
section
variable {κ : Type} [DecidableEq κ]
def valD (kvs : List (κ × PyData)) (k : κ) : Option PyData := (kvs.find? fun q => decide (q.1 = k)).map (·.2)
def putD (kvs : List (κ × PyData)) (k : κ) (d : PyData) : List (κ × PyData) :=
  if k ∈ kvs.map (·.1) then kvs.map (fun q => if q.1 = k then (q.1, d) else q) else kvs ++ [(k, d)]
theorem kv_app {H : Hp} : ∀ {a : List (κ × V)} {b : List (κ × PyData)} {a' : List (κ × V)} {b' : List (κ × PyData)}, KvOk H a b → KvOk H a' b' → KvOk H (a ++ a') (b ++ b')
  | [], [], _, _, _, h => h
  | _ :: _, _ :: _, _, _, h, h' => ⟨h.1, h.2.1, kv_app h.2.2 h'⟩
  | [], _ :: _, _, _, h, _ => h.elim
  | _ :: _, [], _, _, h, _ => h.elim
theorem kv_any {H : Hp} (k : κ) : ∀ {a : List (κ × V)} {b : List (κ × PyData)}, KvOk H a b → ((a.any fun q => decide (q.1 = k)) = true ↔ k ∈ b.map (·.1))
  | [], [], _ => by simp
  | p :: a, q :: b, h => by
    rw [List.any_cons, List.map_cons, List.mem_cons, Bool.or_eq_true, kv_any k h.2.2, h.1, decide_eq_true_iff]
    exact or_congr eq_comm Iff.rfl
  | [], _ :: _, h => h.elim
  | _ :: _, [], h => h.elim
theorem kv_map {H : Hp} {k : κ} {v : V} {d : PyData} (hd : Dq H v d) : ∀ {a : List (κ × V)} {b : List (κ × PyData)}, KvOk H a b → KvOk H (a.map fun q => if q.1 = k then (q.1, v) else q) (b.map fun q => if q.1 = k then (q.1, d) else q)
  | [], [], _ => trivial
  | p :: a, q :: b, h => by
    rw [List.map_cons, List.map_cons]
    refine ⟨?_, ?_, kv_map hd h.2.2⟩
    · by_cases e : q.1 = k
      · rw [if_pos e, if_pos (h.1.trans e)]
        exact h.1
      · rw [if_neg e, if_neg fun z => e (h.1.symm.trans z)]
        exact h.1
    · by_cases e : q.1 = k
      · rw [if_pos e, if_pos (h.1.trans e)]
        exact hd
      · rw [if_neg e, if_neg fun z => e (h.1.symm.trans z)]
        exact h.2.1
  | [], _ :: _, h => h.elim
  | _ :: _, [], h => h.elim
theorem kv_put {H : Hp} {k : κ} {v : V} {d : PyData} (hd : Dq H v d) {a : List (κ × V)} {b : List (κ × PyData)} (h : KvOk H a b) : KvOk H (putK a k v) (putD b k d) := by
  unfold putK putD
  by_cases e : k ∈ b.map (·.1)
  · rw [if_pos e, if_pos ((kv_any k h).mpr e)]
    exact kv_map hd h
  · rw [if_neg e, if_neg fun z => e ((kv_any k h).mp z)]
    exact kv_app h ⟨rfl, hd, trivial⟩
theorem kv_val {H : Hp} {k : κ} : ∀ {a : List (κ × V)} {b : List (κ × PyData)}, KvOk H a b → (valD b k = none ∧ valV a k = none) ∨ ∃ v d, valV a k = some v ∧ valD b k = some d ∧ Dq H v d
  | [], [], _ => .inl ⟨rfl, rfl⟩
  | p :: a, q :: b, h => by
    by_cases e : q.1 = k
    · exact .inr ⟨p.2, q.2, valV_pos (h.1.trans e), by unfold valD; rw [List.find?_cons_of_pos (by simpa using e)]; rfl, h.2.1⟩
    · have e1 : valD (q :: b) k = valD b k := by
        unfold valD
        rw [List.find?_cons_of_neg (by rw [decide_eq_false e]; exact Bool.false_ne_true)]
      rw [e1, valV_neg fun z => e (h.1.symm.trans z)]
      exact kv_val h.2.2
  | [], _ :: _, h => h.elim
  | _ :: _, [], h => h.elim
theorem putD_keys (kvs : List (κ × PyData)) (k : κ) (d : PyData) : (putD kvs k d).map (·.1) = if k ∈ kvs.map (·.1) then kvs.map (·.1) else kvs.map (·.1) ++ [k] := by
  unfold putD
  split
  · rw [List.map_map]
    refine List.map_congr_left fun q _ => ?_
    show (if q.1 = k then (q.1, d) else q).1 = q.1
    split <;> rfl
  · rw [List.map_append]
    rfl
end
/-- keys of names -/
def kN (n : Nm) : Key := .inr n.1
def kKK (p : Key2) : List Key := [.inr p.1.1, .inr p.2.1]
theorem kKK_inj {p q : Key2} (h : kKK p = kKK q) : p = q := by
  unfold kKK at h
  injection h with h1 h2
  injection h2 with h2 _
  injection h1 with h1
  injection h2 with h2
  exact Prod.ext (Subtype.ext h1) (Subtype.ext h2)
theorem kN_inj {p q : Nm} (h : kN p = kN q) : p = q := by
  unfold kN at h
  injection h with h1
  exact Subtype.ext h1

/-! ### arguments, some of them mine -/
section
variable {H0 : Hp} {x : List Addr} {ss : SS} {ta tr : TA} {te : TE} {Φ : Ty → Prop} {u : TS} {D : Ends}
def SS.wl (s : SS) (l : List (Addr × MO)) : SS := { s with l := l ++ s.l }
def EvAm (H0 : Hp) (x : List Addr) (ss : SS) (ta : TA) (Φ : List Ty → List (Addr × MO) → Prop) : Prop := ∀ σ H, Sat H0 x ss σ H → ∀ Q : List V → Hp → Prop,
  (∀ ts l vs H', Φ ts l → Sat H0 x (ss.wl l) σ H' → Same (hid (ss.M x) H) (hid ((ss.wl l).M x) H') → Hold (hid ((ss.wl l).M x) H') vs ts → Q vs H') → ta σ H Q
theorem am_nil : EvAm H0 x ss tNil (fun ts l => ts = [] ∧ l = []) := fun σ H S Q q => q [] [] [] H ⟨rfl, rfl⟩ S (Same.refl _) trivial
theorem am_consD {Ψ : List Ty → List (Addr × MO) → Prop} (h : Ev H0 x ss te Φ) (hr : EvAm H0 x ss tr Ψ) : EvAm H0 x ss (tCons te tr) (fun ts l => ∃ t r, ts = t :: r ∧ Φ t ∧ Ψ r l) := fun σ H S Q q =>
  h σ H S _ fun t1 v1 H1 p1 S1 e1 h1 => hr σ H1 S1 _ fun t2 l v2 H2 p2 S2 e2 h2 => q (t1 :: t2) l (v1 :: v2) H2 ⟨t1, t2, rfl, p1, p2⟩ S2 ((Fr.m e1).trans e2) ⟨Ty.mono e2 h1, h2⟩
theorem am_consM {Ψ : Addr → MO → List Ty → List (Addr × MO) → Prop} {Φm : MO → Prop} (h : EvM H0 x ss te Φm) (hr : ∀ p m, Φm m → EvAm H0 x (ss.wl [(p, m)]) tr (Ψ p m)) :
    EvAm H0 x ss (tCons te tr) (fun ts l => ∃ p m r l', ts = .rf p :: r ∧ l = l' ++ [(p, m)] ∧ Φm m ∧ Ψ p m r l') := fun σ H S Q q =>
  h σ H S _ fun p m H1 hm hp S1 e1 => hr p m hm σ H1 S1 _ fun t2 l v2 H2 p2 S2 e2 h2 => by
    have ew : (ss.wl [(p, m)]).wl l = ss.wl (l ++ [(p, m)]) := by
      show ({ ss with l := l ++ ((p, m) :: ss.l) } : SS) = { ss with l := (l ++ [(p, m)]) ++ ss.l }
      rw [List.append_assoc]
      rfl
    rw [ew] at S2 e2 h2
    refine q (.rf p :: t2) (l ++ [(p, m)]) (.ref p :: v2) H2 ⟨p, m, t2, l, rfl, rfl, hm, p2⟩ S2 (Same.trans (fun a o ha => ?_) e2) ⟨rfl, h2⟩
    obtain ⟨n, ha'⟩ := hid_some ha
    have h3 := Fr.m e1 a o ha
    obtain ⟨_, h3⟩ := hid_some h3
    rw [hid_out fun z => ?_]
    · exact h3
    · have z : a ∈ p :: ss.M x := z
      rcases List.mem_cons.mp z with z | z
      · rw [z, hp] at ha'
        cases ha'
      · exact n z
theorem tr_par {i j : Nat} {Ψ : List Ty → List (Addr × MO) → Prop} (hi : i < ss.g.length) (hj : j < ss.g.length) (h : EvAm H0 x ss ta Ψ) (k : ∀ ts l, Ψ ts l → ∃ t1 t2, ts = [t1, t2] ∧ Tr H0 x ⟨(ss.g.set i t1).set j t2, l ++ ss.l, ss.b⟩ u D) : Tr H0 x ss (tSeq (tPar i j ta) u) D := fun σ H S =>
  h σ H S _ fun ts l vs H1 p S1 e r => by
    obtain ⟨t1, t2, rfl, kk⟩ := k ts l p
    obtain ⟨v, w, rfl, h1, h2⟩ := hold2 r
    refine ⟨v, w, rfl, kk _ _ ?_⟩
    have S2 := S1.st (i := i) (t := t1) hi h1
    exact S2.st (i := j) (t := t2) (by show j < (ss.g.set i t1).length; rw [List.length_set]; exact hj) h2
theorem hold3 {H : Hp} {vs : List V} {t u w : Ty} (h : Hold H vs [t, u, w]) : ∃ a b c, vs = [a, b, c] ∧ t.holds a H ∧ u.holds b H ∧ w.holds c H := by
  match vs, h with
  | [a, b, c], h => exact ⟨a, b, c, rfl, h.1, h.2.1, h.2.2.1⟩
theorem tr_par3 {i j k : Nat} {Ψ : List Ty → List (Addr × MO) → Prop} (hi : i < ss.g.length) (hj : j < ss.g.length) (hk : k < ss.g.length) (h : EvAm H0 x ss ta Ψ) (kk : ∀ ts l, Ψ ts l → ∃ t1 t2 t3, ts = [t1, t2, t3] ∧ Tr H0 x ⟨((ss.g.set i t1).set j t2).set k t3, l ++ ss.l, ss.b⟩ u D) : Tr H0 x ss (tSeq (tPar3 i j k ta) u) D := fun σ H S =>
  h σ H S _ fun ts l vs H1 p S1 e r => by
    obtain ⟨t1, t2, t3, rfl, kk⟩ := kk ts l p
    obtain ⟨v, w, z, rfl, h1, h2, h3⟩ := hold3 r
    refine ⟨v, w, z, rfl, kk _ _ ?_⟩
    have S2 := S1.st (i := i) (t := t1) hi h1
    have S3 := S2.st (i := j) (t := t2) (by show j < (ss.g.set i t1).length; rw [List.length_set]; exact hj) h2
    exact S3.st (i := k) (t := t3) (by show k < ((ss.g.set i t1).set j t2).length; rw [List.length_set, List.length_set]; exact hk) h3
/-- a, b = data -/
theorem tr_parD {i j : Nat} {ta tb : TE} {t1 t2 : Ty} (hi : i < ss.g.length) (hj : j < ss.g.length) (h1 : EvD H0 x ss ta t1) (h2 : EvD H0 x ss tb t2) (k : Tr H0 x ⟨(ss.g.set i t1).set j t2, ss.l, ss.b⟩ u D) : Tr H0 x ss (tSeq (tPar i j (tCons ta (tCons tb tNil))) u) D :=
  tr_par hi hj (am_consD h1 (am_consD h2 am_nil)) fun ts l ⟨a, r, e, ea, b, r', e', eb, e2, el⟩ => by
    subst ea eb e2 e' e el
    exact ⟨_, _, rfl, k⟩
/-- name += e of numbers -/
theorem tr_aug {i : Nat} {a b : Int} (hi : i < ss.g.length) (h0 : ss.g[i]? = some (.im (.int a))) (h : EvD H0 x ss te (.im (.int b))) (k : Tr H0 x (ss.st i (.im (.int (a + b)))) u D) : Tr H0 x ss (tSeq (tAug i te (ipI fun i j => i + j)) u) D := fun σ H S => by
  rcases S.vr i _ h0 with z | ⟨v, h1, h2⟩
  · cases z
  cases h2
  refine ⟨_, h1, h σ H S _ fun t w H1 p S1 e r => ?_⟩
  subst p
  cases r
  exact ⟨a, b, rfl, rfl, k _ _ (S1.st hi (.int _))⟩
end

/-! ### dicts -/
section
variable {H0 : Hp} {x : List Addr} {ss : SS} {td ty te tz : TE} {κ : Type} {Φ : Ty → Prop} {u : TS} {D : Ends}
/-- a dict stands there, data or mine, with these entries, while nothing but the bag changes -/
def DkE (H0 : Hp) (x : List Addr) (ss : SS) (td : TE) (c : List (κ × V) → HO) (kvs : List (κ × PyData)) : Prop := ∀ σ H, Sat H0 x ss σ H → ∀ Q : VK,
  (∀ a H', Sat H0 x ss σ H' → Fr ss H H' → (∀ H2, Sat H0 x ss σ H2 → Fr ss H' H2 → ∃ vs, H2 a = some (c vs) ∧ KvOk (hid (ss.M x) H2) vs kvs) → Q (.ref a) H') → td σ H Q
theorem dk_dataK {kvs : List (Key × PyData)} (h : EvD H0 x ss td (.dK kvs)) : DkE H0 x ss td HO.dK kvs := fun σ H S Q q =>
  h σ H S _ fun t v H1 p S1 e r => by
    subst p
    obtain ⟨a, vs, rfl, h1, h2⟩ := r
    exact q a H1 S1 e fun H2 S2 e2 => ⟨vs, (hid_some (Fr.m (x := x) e2 _ _ h1)).2, kv_mono (Fr.m e2) h2⟩
theorem dk_dataT {kvs : List (List Key × PyData)} (h : EvD H0 x ss td (.dT kvs)) : DkE H0 x ss td HO.dT kvs := fun σ H S Q q =>
  h σ H S _ fun t v H1 p S1 e r => by
    subst p
    obtain ⟨a, vs, rfl, h1, h2⟩ := r
    exact q a H1 S1 e fun H2 S2 e2 => ⟨vs, (hid_some (Fr.m (x := x) e2 _ _ h1)).2, kv_mono (Fr.m e2) h2⟩
theorem dk_mineK {i : Nat} {p : Addr} {kvs : List (Key × PyData)} (hi : ss.g[i]? = some (.rf p)) (hm : (p, MO.dK kvs) ∈ ss.l := by first | exact List.mem_cons_self | exact List.mem_cons_of_mem _ List.mem_cons_self | simp) : DkE H0 x ss (tVar i) HO.dK kvs := fun σ H S Q q => by
  rcases S.vr i _ hi with z | ⟨v, h1, h2⟩
  · cases z
  have h2 : v = .ref p := h2
  subst h2
  exact ⟨_, h1, q p H S (Same.refl _) fun H2 S2 _ => (S2.ls _ hm).2⟩
theorem dk_mineT {i : Nat} {p : Addr} {kvs : List (List Key × PyData)} (hi : ss.g[i]? = some (.rf p)) (hm : (p, MO.dT kvs) ∈ ss.l := by first | exact List.mem_cons_self | exact List.mem_cons_of_mem _ List.mem_cons_self | simp) : DkE H0 x ss (tVar i) HO.dT kvs := fun σ H S Q q => by
  rcases S.vr i _ hi with z | ⟨v, h1, h2⟩
  · cases z
  have h2 : v = .ref p := h2
  subst h2
  exact ⟨_, h1, q p H S (Same.refl _) fun H2 S2 _ => (S2.ls _ hm).2⟩
/-- what a key's data reads as -/
def KyOk (c : List (κ × V) → HO) (k : κ) (d : PyData) : Prop := ∀ (M : List Addr) (H : Hp) (v : V), Dq (hid M H) v d → ∀ a vs, H a = some (c vs) → (∀ [DecidableEq κ], DGet H a v (valV vs k) ∧ ∀ z, vs.length < sizeLine → DPut H a v z (upd H a (c (putK vs k z))))
theorem dq_k {H : Hp} {v : V} {z : Str} (h : Dq H v (.str z)) : v = kV (.inr z) := by
  cases h
  rfl
theorem DGetK {H : Hp} {a : Addr} {vs : List (Key × V)} {n : Nm} {v : V} (e : H a = some (.dK vs)) (h : Dq H v (nD n)) : DGet H a v (valV vs (kN n)) := by
  rw [dq_k h]
  exact DGet.k e
theorem DGetT {H : Hp} {M : List Addr} {a : Addr} {vs : List (List Key × V)} {n : Key2} {v : V} (e : H a = some (.dT vs)) (h : Dq (hid M H) v (kD n)) : DGet H a v (valV vs (kKK n)) := by
  cases h with
  | tup h1 h2 =>
    cases h2 with
    | cons r1 r2 =>
      cases r2 with
      | cons r2 r3 =>
        cases r3
        rw [dq_k r1, dq_k r2] at h1
        exact DGet.t e (hid_some h1).2
theorem DPutK {H : Hp} {a : Addr} {vs : List (Key × V)} {n : Nm} {v z : V} (e : H a = some (.dK vs)) (hl : vs.length < sizeLine) (h : Dq H v (nD n)) : DPut H a v z (upd H a (.dK (putK vs (kN n) z))) := by
  rw [dq_k h]
  exact DPut.k e hl
theorem DPutT {H : Hp} {M : List Addr} {a : Addr} {vs : List (List Key × V)} {n : Key2} {v z : V} (e : H a = some (.dT vs)) (hl : vs.length < sizeLine) (h : Dq (hid M H) v (kD n)) : DPut H a v z (upd H a (.dT (putK vs (kKK n) z))) := by
  cases h with
  | tup h1 h2 =>
    cases h2 with
    | cons r1 r2 =>
      cases r2 with
      | cons r2 r3 =>
        cases r3
        rw [dq_k r1, dq_k r2] at h1
        exact DPut.t e (hid_some h1).2 hl
/-- d[k] -/
theorem ev_dgetK {kvs : List (Key × PyData)} {n : Nm} {d : PyData} (h : DkE H0 x ss td HO.dK kvs) (hy : EvD H0 x ss ty (.im (nD n))) (hv : valD kvs (kN n) = some d) : EvD H0 x ss (tDGet td ty) (.im d) := fun σ H S Q q =>
  h σ H S _ fun a H1 S1 e1 k => hy σ H1 S1 _ fun t v H2 p S2 e2 r => by
    subst p
    obtain ⟨vs, h1, h2⟩ := k H2 S2 e2
    rcases kv_val (k := kN n) h2 with ⟨z, _⟩ | ⟨w, d', z1, z2, z3⟩
    · rw [hv] at z
      cases z
    · rw [hv] at z2
      cases z2
      refine ⟨a, w, rfl, ?_, q _ w H2 rfl S2 (e1.trans e2) z3⟩
      rw [← z1]
      exact DGetK h1 (dp_mono same_hid r)
theorem ev_dgetT {kvs : List (List Key × PyData)} {n : Key2} {d : PyData} (h : DkE H0 x ss td HO.dT kvs) (hy : EvD H0 x ss ty (.im (kD n))) (hv : valD kvs (kKK n) = some d) : EvD H0 x ss (tDGet td ty) (.im d) := fun σ H S Q q =>
  h σ H S _ fun a H1 S1 e1 k => hy σ H1 S1 _ fun t v H2 p S2 e2 r => by
    subst p
    obtain ⟨vs, h1, h2⟩ := k H2 S2 e2
    rcases kv_val (k := kKK n) h2 with ⟨z, _⟩ | ⟨w, d', z1, z2, z3⟩
    · rw [hv] at z
      cases z
    · rw [hv] at z2
      cases z2
      refine ⟨a, w, rfl, ?_, q _ w H2 rfl S2 (e1.trans e2) z3⟩
      rw [← z1]
      exact DGetT h1 r
theorem isSome_val {κ : Type} [DecidableEq κ] {H : Hp} {k : κ} {a : List (κ × V)} {b : List (κ × PyData)} (h : KvOk H a b) : (valV a k).isSome = (valD b k).isSome := by
  rcases kv_val (k := k) h with ⟨z1, z2⟩ | ⟨v, d, z1, z2, _⟩
  · rw [z1, z2]
    rfl
  · rw [z1, z2]
    rfl
/-- k in d, k not in d -/
theorem ev_dinK {kvs : List (Key × PyData)} {n : Nm} (hy : EvD H0 x ss ty (.im (nD n))) (h : DkE H0 x ss td HO.dK kvs) : EvD H0 x ss (tDIn ty td) (.im (.bool (valD kvs (kN n)).isSome)) := fun σ H S Q q =>
  hy σ H S _ fun t v H1 p S1 e1 r => h σ H1 S1 _ fun a H2 S2 e2 k => by
    subst p
    obtain ⟨vs, h1, h2⟩ := k H2 S2 (Same.refl _)
    refine ⟨a, _, rfl, DGetK h1 (dp_mono same_hid (dp_mono (Fr.m (x := x) e2) r)), q _ _ H2 rfl S2 (e1.trans e2) ?_⟩
    rw [isSome_val h2]
    exact .bl _
theorem ev_dinT {kvs : List (List Key × PyData)} {n : Key2} (hy : EvD H0 x ss ty (.im (kD n))) (h : DkE H0 x ss td HO.dT kvs) : EvD H0 x ss (tDIn ty td) (.im (.bool (valD kvs (kKK n)).isSome)) := fun σ H S Q q =>
  hy σ H S _ fun t v H1 p S1 e1 r => h σ H1 S1 _ fun a H2 S2 e2 k => by
    subst p
    obtain ⟨vs, h1, h2⟩ := k H2 S2 (Same.refl _)
    refine ⟨a, _, rfl, DGetT h1 (dp_mono (Fr.m (x := x) e2) r), q _ _ H2 rfl S2 (e1.trans e2) ?_⟩
    rw [isSome_val h2]
    exact .bl _
theorem ev_dniK {kvs : List (Key × PyData)} {n : Nm} (hy : EvD H0 x ss ty (.im (nD n))) (h : DkE H0 x ss td HO.dK kvs) : EvD H0 x ss (tDNotIn ty td) (.im (.bool (!(valD kvs (kN n)).isSome))) := fun σ H S Q q =>
  hy σ H S _ fun t v H1 p S1 e1 r => h σ H1 S1 _ fun a H2 S2 e2 k => by
    subst p
    obtain ⟨vs, h1, h2⟩ := k H2 S2 (Same.refl _)
    refine ⟨a, _, rfl, DGetK h1 (dp_mono same_hid (dp_mono (Fr.m (x := x) e2) r)), q _ _ H2 rfl S2 (e1.trans e2) ?_⟩
    rw [isSome_val h2]
    exact .bl _
/-- d.get(k, e) -/
theorem ev_dget2T {kvs : List (List Key × PyData)} {n : Key2} {d : PyData} (h : DkE H0 x ss td HO.dT kvs) (hy : EvD H0 x ss ty (.im (kD n))) (hz : EvD H0 x ss tz (.im d)) : EvD H0 x ss (tDGet2 td ty tz) (.im ((valD kvs (kKK n)).getD d)) := fun σ H S Q q =>
  h σ H S _ fun a H1 S1 e1 k => by
    obtain ⟨vs0, h0, _⟩ := k H1 S1 (Same.refl _)
    refine ⟨a, rfl, .inr ⟨vs0, .inl h0⟩, hy σ H1 S1 _ fun t v H2 p S2 e2 r => hz σ H2 S2 _ fun t' w H3 p' S3 e3 r' => ?_⟩
    subst p p'
    obtain ⟨vs, h1, h2⟩ := k H3 S3 (e2.trans e3)
    refine ⟨_, DGetT h1 (dp_mono (Fr.m (x := x) e3) r), q _ _ H3 rfl S3 ((e1.trans e2).trans e3) ?_⟩
    rcases kv_val (k := kKK n) h2 with ⟨z1, z2⟩ | ⟨y, d', z1, z2, z3⟩
    · rw [z1, z2]
      exact r'
    · rw [z1, z2]
      exact z3
end
section
variable {H0 : Hp} {x : List Addr} {g : List Ty} {L : List (Addr × MO)} {b : Option (Addr × Addr)} {p : Addr} {i : Nat} {te ty : TE} {ta : TA} {Φ : Ty → Prop} {u : TS} {D : Ends} {K : PySem.W.Frag} {ss : SS}
/-- d[k] = e -/
theorem tr_dputK {kvs : List (Key × PyData)} {n : Nm} (hg : g[i]? = some (.rf p)) (hl : kvs.length < 100000) (h : Ev H0 x ⟨g, (p, .dK kvs) :: L, b⟩ te Φ) (hy : EvD H0 x ⟨g, (p, .dK kvs) :: L, b⟩ ty (.im (nD n)))
    (k : ∀ t, Φ t → ∃ d, t = .im d ∧ Tr H0 x ⟨g, (p, .dK (putD kvs (kN n) d)) :: L, b⟩ u D) : Tr H0 x ⟨g, (p, .dK kvs) :: L, b⟩ (tSeq (sDPut (tVar i) ty te) u) D := fun σ H S =>
  h σ H S _ fun t w H1 ht S1 e r => by
    obtain ⟨d, rfl, hk⟩ := k t ht
    rcases S1.vr i _ hg with z | ⟨v, h1, h2⟩
    · cases z
    have h2 : v = .ref p := h2
    subst h2
    refine ⟨_, h1, hy σ H1 S1 _ fun t2 w2 H2 e2 S2 f2 r2 => ?_⟩
    subst e2
    obtain ⟨_, vs, hp, hds⟩ := S2.ls (p, .dK kvs) List.mem_cons_self
    refine ⟨p, _, rfl, DPutK hp (by rw [kv_len hds]; exact Nat.lt_trans hl (by decide)) (dp_mono same_hid r2), hk σ _ ?_⟩
    exact (S2.chg (ss := ⟨g, L, b⟩) (m' := .dK (putD kvs (kN n) d)) ⟨_, upd_same, kv_put (dp_mono (Fr.m (x := x) (ss := ⟨g, (p, .dK kvs) :: L, b⟩) f2) r) hds⟩).1
theorem tr_dputT {kvs : List (List Key × PyData)} {n : Key2} (hg : g[i]? = some (.rf p)) (hl : kvs.length < 100000) (h : Ev H0 x ⟨g, (p, .dT kvs) :: L, b⟩ te Φ) (hy : EvD H0 x ⟨g, (p, .dT kvs) :: L, b⟩ ty (.im (kD n)))
    (k : ∀ t, Φ t → ∃ d, t = .im d ∧ Tr H0 x ⟨g, (p, .dT (putD kvs (kKK n) d)) :: L, b⟩ u D) : Tr H0 x ⟨g, (p, .dT kvs) :: L, b⟩ (tSeq (sDPut (tVar i) ty te) u) D := fun σ H S =>
  h σ H S _ fun t w H1 ht S1 e r => by
    obtain ⟨d, rfl, hk⟩ := k t ht
    rcases S1.vr i _ hg with z | ⟨v, h1, h2⟩
    · cases z
    have h2 : v = .ref p := h2
    subst h2
    refine ⟨_, h1, hy σ H1 S1 _ fun t2 w2 H2 e2 S2 f2 r2 => ?_⟩
    subst e2
    obtain ⟨_, vs, hp, hds⟩ := S2.ls (p, .dT kvs) List.mem_cons_self
    refine ⟨p, _, rfl, DPutT hp (by rw [kv_len hds]; exact Nat.lt_trans hl (by decide)) r2, hk σ _ ?_⟩
    exact (S2.chg (ss := ⟨g, L, b⟩) (m' := .dT (putD kvs (kKK n) d)) ⟨_, upd_same, kv_put (dp_mono (Fr.m (x := x) (ss := ⟨g, (p, .dT kvs) :: L, b⟩) f2) r) hds⟩).1
/-- {} -/
theorem em_newK : EvM H0 x ss tDNewK (fun m => m = .dK []) := fun σ H S Q q p hp => by
  obtain ⟨S2, e2⟩ := S.mine (m := .dK []) (o := .dK []) hp fun M => ⟨[], upd_same, trivial⟩
  exact q p (.dK []) _ rfl hp S2 (hid_mono (same_new hp))
theorem em_newT : EvM H0 x ss tDNewT (fun m => m = .dT []) := fun σ H S Q q p hp => by
  obtain ⟨S2, e2⟩ := S.mine (m := .dT []) (o := .dT []) hp fun M => ⟨[], upd_same, trivial⟩
  exact q p (.dT []) _ rfl hp S2 (hid_mono (same_new hp))
/-- {k: e} -/
theorem em_disp {n : Nm} {d : PyData} {tk tv : TE} (hk : ∀ p, EvD H0 x (ss.wl [(p, .dK [])]) tk (.im (nD n))) (hv : ∀ p, EvD H0 x (ss.wl [(p, .dK [])]) tv (.im d)) : EvM H0 x ss (tDisp [(tk, tv)]) (fun m => m = .dK [(kN n, d)]) := fun σ H S Q q p hp => by
  obtain ⟨S2, e2⟩ := S.mine (m := .dK []) (o := .dK []) hp fun M => ⟨[], upd_same, trivial⟩
  refine hk p σ _ S2 _ fun t1 v1 H1 p1 S3 f3 r1 => hv p σ H1 S3 _ fun t2 v2 H2 p2 S4 f4 r2 => ?_
  subst p1 p2
  obtain ⟨_, vs, h0, hds⟩ := S4.ls (p, .dK []) List.mem_cons_self
  cases vs with
  | cons _ _ => exact hds.elim
  | nil =>
    refine ⟨h0, [(kN n, v2)], ?_, (by show 1 ≤ 15; decide), ?_⟩
    · rw [dq_k r1]
      rfl
    · have S5 := (S4.chg (ss := ss) (m' := .dK [(kN n, d)]) (o := .dK [(kN n, v2)]) ⟨_, upd_same, ⟨rfl, r2, trivial⟩⟩).1
      refine q p _ _ rfl hp S5 fun a o ha => ?_
      obtain ⟨na, h5⟩ := hid_some ((Same.trans (hid_mono (same_new hp)) (f3.trans f4)) a o ha)
      have na : a ∉ ss.bm := na
      rw [hid_out na, upd_ne (ne_of_none (hid_some ha).2 hp)]
      exact h5
/-- l.extend(e) -/
theorem tr_ext {ds : List PyData} (hg : g[i]? = some (.rf p)) (h : Ev H0 x ⟨g, (p, .lst ds) :: L, b⟩ te Φ) (k : ∀ t, Φ t → ∃ es, t = .im (.list es) ∧ ds.length + es.length ≤ 100000 ∧ Tr H0 x ⟨g, (p, .lst (ds ++ es)) :: L, b⟩ u D) :
    Tr H0 x ⟨g, (p, .lst ds) :: L, b⟩ (tSeq (tDrop (tBM K "list" rExtend (tVar i) (tCons te tNil))) u) D := fun σ H S => by
  rcases S.vr i _ hg with z | ⟨v, h1, h2⟩
  · cases z
  have h2 : v = .ref p := h2
  subst h2
  obtain ⟨_, vs0, hp0, _⟩ := S.ls (p, .lst ds) List.mem_cons_self
  refine ⟨.ref p, h1, .inl ⟨rfl, vs0, .inl (.inl hp0)⟩, ?_⟩
  refine h σ H S _ fun t w H1 ht S1 e r => ?_
  obtain ⟨es, rfl, hz, hk⟩ := k t ht
  obtain ⟨_, vs, hp, hds⟩ := S1.ls (p, .lst ds) List.mem_cons_self
  have r' : Dq _ w (.list es) := r
  cases r' with
  | lst r1 r2 =>
    refine ⟨p, _, vs, _, rfl, rfl, hp, (hid_some r1).2, by rw [dps_len hds, dps_len r2]; exact Nat.le_trans hz (by decide), hk σ _ ?_⟩
    exact (S1.chg (ss := ⟨g, L, b⟩) (m' := .lst (ds ++ es)) ⟨_, upd_same, dps_app hds r2⟩).1
/-- l.insert(i, e) -/
theorem tr_ins {ds : List PyData} {ti : TE} {d : PyData} {Ψ : Ty → Prop} (hg : g[i]? = some (.rf p)) (hl : ds.length < 100000) (hi : Ev H0 x ⟨g, (p, .lst ds) :: L, b⟩ ti Ψ) (h : EvD H0 x ⟨g, (p, .lst ds) :: L, b⟩ te (.im d))
    (k : ∀ t, Ψ t → ∃ j : Nat, t = .im (.int j) ∧ j ≤ 100000 ∧ Tr H0 x ⟨g, (p, .lst (ds.take j ++ [d] ++ ds.drop j)) :: L, b⟩ u D) :
    Tr H0 x ⟨g, (p, .lst ds) :: L, b⟩ (tSeq (tDrop (tBM K "list" rInsert (tVar i) (tCons ti (tCons te tNil)))) u) D := fun σ H S => by
  rcases S.vr i _ hg with z | ⟨v, h1, h2⟩
  · cases z
  have h2 : v = .ref p := h2
  subst h2
  obtain ⟨_, vs0, hp0, _⟩ := S.ls (p, .lst ds) List.mem_cons_self
  refine ⟨.ref p, h1, .inl ⟨rfl, vs0, .inl (.inl hp0)⟩, ?_⟩
  refine hi σ H S _ fun t0 w0 H0' ht0 S0 e0 r0 => ?_
  obtain ⟨j, rfl, hj, hk⟩ := k t0 ht0
  refine h σ H0' S0 _ fun t w H1 ht S1 e r => ?_
  subst ht
  cases r0
  obtain ⟨_, vs, hp, hds⟩ := S1.ls (p, .lst ds) List.mem_cons_self
  refine ⟨p, vs, j, w, rfl, rfl, hp, by rw [dps_len hds]; exact Nat.lt_trans hl (by decide), by omega, by omega, hk σ _ ?_⟩
  refine (S1.chg (ss := ⟨g, L, b⟩) (m' := .lst (ds.take j ++ [d] ++ ds.drop j)) ⟨_, upd_same, ?_⟩).1
  rw [Int.toNat_natCast]
  exact dps_app (dps_app (dps_take _ hds) (.cons r .nil)) (dps_drop _ hds)
/-- l[::-1] -/
theorem ev_rev {ds : List PyData} (h : EvD H0 x ss te (.im (.list ds))) : EvD H0 x ss (tRevL K te) (.im (.list ds.reverse)) := fun σ H S Q q =>
  h σ H S _ fun t v H1 p S1 e r => by
    subst p
    have r : Dq _ v (.list ds) := r
    cases r with
    | lst r1 r2 =>
      refine ⟨_, _, rfl, .inl (.inl (hid_some r1).2), fun p hp => ?_⟩
      exact q _ _ _ rfl (S1.pure (same_new hp)) (e.trans (hid_mono (same_new hp))) (.lst (hid_new S1.trk hp) (dps_mono (hid_mono (same_new hp)) (dps_rev r2)))
/-- (a, b) = a list -/
theorem bd_unl {s s1 : SS} {gs : TGs} {ds : List PyData} {ws : List Nat} {n : Nat} (h : Bds H0 x gs s ds ws s1) (hn : ds.length = n := by rfl) : Bd H0 x (gUnl K n gs) s (.im (.list ds)) ws s1 := fun v σ H Q S r q => by
  cases r with
  | lst r1 r2 => exact ⟨_, _, rfl, Or.inl (Or.inl ((hid_some r1).2)), (dps_len r2).trans hn, h _ σ H Q S r2 q⟩
end
end Sx
set_option Elab.async false
set_option linter.all false
set_option maxRecDepth 100000
set_option maxHeartbeats 1000000
/-! A standing: its staffs are a tuple of which the object itself is known (it bears no dict). -/
namespace Sx
open PySem L2
def isStaffs (F : List Stf) (v : V) (H : Hp) : Prop := ∃ (f : Addr) (o : Obj) (xs : List V), v = .ref f ∧ H f = some (.frz o (.tup xs)) ∧ o.dict = none ∧ DqAll H xs (F.map fD)
def isStn (Z : Stn) (v : V) (H : Hp) : Prop := ∃ (a : Addr) (vf vg : V), v = .ref a ∧ H a = some (.tup [vf, vg]) ∧ isStaffs Z.1 vf H ∧ Dq H vg (.tuple (Z.2.map tD))
theorem isStaffs.mono {F : List Stf} {v : V} {H H' : Hp} (e : Same H H') (h : isStaffs F v H) : isStaffs F v H' := by
  obtain ⟨f, o, xs, h1, h2, h3, h4⟩ := h
  exact ⟨f, o, xs, h1, e _ _ h2, h3, dps_mono e h4⟩
theorem isStn.mono {Z : Stn} {v : V} {H H' : Hp} (e : Same H H') (h : isStn Z v H) : isStn Z v H' := by
  obtain ⟨a, vf, vg, h1, h2, h3, h4⟩ := h
  exact ⟨a, vf, vg, h1, e _ _ h2, h3.mono e, dp_mono e h4⟩
abbrev fzTy (F : List Stf) : Ty := .pr (isStaffs F)
abbrev stnTy (Z : Stn) : Ty := .pr (isStn Z)
section
variable {H0 : Hp} {x : List Addr} {ss : SS} {te tf : TE} {K : PySem.W.Frag} {Z : Stn} {F : List Stf}
theorem fz_at {v : V} {H : Hp} (h : (fzTy F).holds v H) : isStaffs F v H := h _ (Same.refl _)
theorem fz_of {v : V} {H : Hp} (h : isStaffs F v H) : (fzTy F).holds v H := fun H' e => h.mono e
theorem stn_at {v : V} {H : Hp} (h : (stnTy Z).holds v H) : isStn Z v H := h _ (Same.refl _)
theorem stn_of {v : V} {H : Hp} (h : isStn Z v H) : (stnTy Z).holds v H := fun H' e => h.mono e
theorem ev_z0 (h : EvD H0 x ss te (stnTy Z)) : EvD H0 x ss (tOp (rIxT K) te (tC (.int 0))) (fzTy Z.1) := fun σ H S Q q =>
  h σ H S _ fun t v H1 p S1 e r => by
    subst p
    obtain ⟨a, vf, vg, rfl, h2, h3, h4⟩ := stn_at r
    exact ⟨_, _, 0, vf, rfl, rfl, .inl (.inl (hid_some h2).2), rfl, q _ _ H1 rfl S1 e (fz_of h3)⟩
theorem ev_z1 (h : EvD H0 x ss te (stnTy Z)) : EvD H0 x ss (tOp (rIxT K) te (tC (.int 1))) (.im (.tuple (Z.2.map tD))) := fun σ H S Q q =>
  h σ H S _ fun t v H1 p S1 e r => by
    subst p
    obtain ⟨a, vf, vg, rfl, h2, h3, h4⟩ := stn_at r
    exact ⟨_, _, 1, vg, rfl, rfl, .inl (.inl (hid_some h2).2), rfl, q _ _ H1 rfl S1 e h4⟩
theorem srcZ (h : EvD H0 x ss te (fzTy F)) : SrcP H0 x ss (iTup K te) (fun n ty => n = F.length ∧ ∀ i a, F[i]? = some a → ty i = .im (fD a)) := fun σ H S R r =>
  h σ H S _ fun t v H1 p S1 e q => by
    subst p
    obtain ⟨f, o, xs, rfl, h2, h3, h4⟩ := fz_at q
    have hn : xs.length = F.length := by
      have := dps_len h4
      rwa [List.length_map] at this
    have hR : ∀ {H2 : Hp}, Same (hid (ss.M x) H1) H2 → SqT K H2 f xs := fun g => .inl (.inr ⟨o, g _ _ h2⟩)
    refine ⟨f, rfl, ⟨xs, hR same_hid⟩, ?_⟩
    refine r F.length (fun i => .im ((F.map fD).getD i .none)) (Itt K f) H1 (YAt xs) ⟨rfl, fun i a h => congrArg Ty.im (getD_map fD h)⟩ S1 e (by rw [← hn]; exact (walk_tup (K := K) (a := f) (xs := xs)).mono (fun H2 g => hR g) fun i H2 z H3 _ _ y => y) fun i H2 v H3 M2 hi s3 T y => ?_
    obtain ⟨rfl, hv⟩ := y
    refine ⟨Same.refl _, ?_⟩
    obtain ⟨d, e1, e2⟩ := dps_get h4 hv
    show Dq _ v ((F.map fD).getD i .none)
    rw [List.getD_eq_getElem?_getD, e1]
    exact dp_mono s3 e2
/-- (staffs, trains) -/
theorem ev_stn {T : List Trn} (h1 : EvD H0 x ss te (fzTy F)) (h2 : EvD H0 x ss tf (.im (.tuple (T.map tD)))) : EvD H0 x ss (tTup (tCons te (tCons tf tNil))) (stnTy (F, T)) := fun σ H S Q q =>
  h1 σ H S _ fun t1 v1 H1 p1 S1 e1 r1 => h2 σ H1 S1 _ fun t2 v2 H2 p2 S2 e2 r2 => by
    subst p1 p2
    refine ⟨by show 2 ≤ sizeLine; decide, fun p hp => ?_⟩
    have e3 := same_new (o := .tup [v1, v2]) hp
    refine q _ _ _ rfl (S2.pure e3) ((e1.trans e2).trans (hid_mono e3)) (stn_of ⟨p, v1, v2, rfl, hid_new S2.trk hp, ?_, dp_mono (hid_mono e3) r2⟩)
    exact ((fz_at r1).mono (Fr.m e2)).mono (hid_mono e3)
end
end Sx
set_option Elab.async false
set_option linter.all false
set_option maxRecDepth 100000
set_option maxHeartbeats 1000000
/-! Short forms. -/
namespace Sx
open PySem L2
theorem cut_tail {α : Type} (a : α) (as : List α) : cutD (a :: as) (some 1) none = as := by
  unfold cutD
  rw [HT.sIx_none, show (some (1 : Int)) = some ((1 : Nat) : Int) from rfl, HT.sIx_nat, List.length_cons, Nat.min_eq_left (by omega), List.drop_succ_cons, List.drop_zero]
  exact List.take_of_length_le (by omega)
theorem at_0 {α : Type} (a : α) (as : List α) : atI (a :: as) 0 = some a := by
  unfold atI ixN
  rw [if_pos (by omega), if_pos (by rw [List.length_cons]; omega)]
  rfl
theorem at_n {α : Type} {as : List α} {i : Nat} {a : α} (h : as[i]? = some a) : atI as (i : Nat) = some a := by
  have hi := (List.getElem?_eq_some_iff.mp h).1
  unfold atI ixN
  rw [if_pos (by omega), if_pos (by omega), Int.toNat_natCast]
  exact h
theorem at_last {α : Type} {as : List α} {a : α} (h : as.getLast? = some a) : atI as (-1) = some a := by
  obtain ⟨l, e⟩ := List.getLast?_eq_some_iff.mp h
  subst e
  unfold atI ixN
  rw [if_neg (by omega), if_pos (by rw [List.length_append, List.length_singleton]; omega)]
  show (l ++ [a])[(-1 + ((l ++ [a]).length : Int)).toNat]? = some a
  have : (-1 + ((l ++ [a]).length : Int)).toNat = l.length := by
    rw [List.length_append, List.length_singleton]
    omega
  rw [this, List.getElem?_append_right (Nat.le_refl _), Nat.sub_self]
  rfl
section
variable {H0 : Hp} {x : List Addr} {ss : SS} {te : TE} {g : TG} {tb u : TS} {D : Ends} {K : PySem.W.Frag} {α : Type} {f : α → PyData} {as : List α}
/-- a list comprehension over data of a kind that makes a list of mine -/
theorem em_lcE {wi : TI} {tt : TT} {te : TE} {vs : List Nat} {β : Type} {h : β → PyData} {c : α → Bool} {e : α → β} (hs : SrcP H0 x ss wi (fun n ty => n = as.length ∧ ∀ i a, as[i]? = some a → ty i = .im (f a))) (hz : as.length ≤ 100000)
    (step : ∀ H1, Bs x ss.b H0 H1 → ∀ D acc a, a ∈ as → ∃ ws s', Bd H1 x g (ss.cm vs D acc) (.im (f a)) ws s' ∧ (∀ w ∈ ws, w ∈ vs) ∧ s'.l = (D, .lst acc) :: ss.l ∧ s'.b = ss.b ∧ EtD H1 x s' tt (c a) ∧ (c a = true → EvD H1 x s' te (.im (h (e a))))) :
    EvM H0 x ss (tLc wi g tt te vs) (fun m => m = .lst (((as.filter c).map e).map h)) :=
  em_lc hs (fun _ i acc => acc = (((as.take i).filter c).map e).map h) (fun n ty ⟨e, _⟩ => ⟨by rw [e]; exact hz, by simp⟩) (fun n ty ⟨en, k⟩ H1 B D i acc hi hJ => by
    subst en
    have ha : as[i]? = some as[i] := List.getElem?_eq_getElem hi
    have hm : as[i] ∈ as := List.getElem_mem hi
    generalize as[i] = a at ha hm
    obtain ⟨ws, s', h1, h2, h3, h4, h5, h6⟩ := step H1 B D acc a hm
    have ht : as.take (i + 1) = as.take i ++ [a] := by
      rw [List.take_add_one, ha]
      rfl
    refine ⟨ws, s', by rw [k i a ha]; exact h1, h2, h3, h4, _, h5, fun e => ?_, fun e => (h6 e.symm).imp fun t et => ?_⟩
    · rw [ht, List.filter_append, List.filter_cons_of_neg (by rw [← e]; exact Bool.false_ne_true), List.filter_nil, List.append_nil]
      exact hJ
    · refine ⟨_, et, ?_⟩
      rw [ht, List.filter_append, List.filter_cons_of_pos e.symm, List.filter_nil, List.map_append, List.map_append, hJ]
      rfl) fun n ty ⟨en, _⟩ acc hJ => by
    subst en
    rw [hJ, List.take_length]
theorem em_lcM {wi : TI} {te : TE} {vs : List Nat} {β : Type} {h : β → PyData} {e : α → β} (hs : SrcP H0 x ss wi (fun n ty => n = as.length ∧ ∀ i a, as[i]? = some a → ty i = .im (f a))) (hz : as.length ≤ 100000)
    (step : ∀ H1, Bs x ss.b H0 H1 → ∀ D acc a, a ∈ as → ∃ ws s', Bd H1 x g (ss.cm vs D acc) (.im (f a)) ws s' ∧ (∀ w ∈ ws, w ∈ vs) ∧ s'.l = (D, .lst acc) :: ss.l ∧ s'.b = ss.b ∧ EvD H1 x s' te (.im (h (e a)))) :
    EvM H0 x ss (tLc wi g tYes te vs) (fun m => m = .lst ((as.map e).map h)) := by
  have q := em_lcE (tt := tYes) (c := fun _ => true) (e := e) (h := h) hs hz fun H1 B D acc a hm => by
    obtain ⟨ws, s', h1, h2, h3, h4, h5⟩ := step H1 B D acc a hm
    exact ⟨ws, s', h1, h2, h3, h4, et_yes, fun _ => h5⟩
  rw [List.filter_eq_self.mpr (fun _ _ => rfl)] at q
  exact q
/-- t[1:] of one that is not empty -/
theorem ev_tail {a : α} (h : EvD H0 x ss te (.im (.tuple ((a :: as).map f)))) : EvD H0 x ss (tSl (rSlA K) te (tPart (tC (.int 1))) tNoPart) (.im (.tuple (as.map f))) := by
  have := ev_sl (lo := some 1) (hi := none) h (eo_at ev_int) eo_no (rs_tup (K := K))
  rw [cutD_map, cut_tail] at this
  exact this
theorem ev_head {a : α} (h : EvD H0 x ss te (.im (.tuple ((a :: as).map f)))) : EvD H0 x ss (tOp (rIxT K) te (tC (.int 0))) (.im (f a)) := ev_ixT h (by rw [List.map_cons]; exact at_0 _ _)
end
section
variable {H0 : Hp} {x : List Addr} {g : List Ty} {L : List (Addr × MO)} {b : Option (Addr × Addr)} {p : Addr} {m : MO} {i : Nat} {te : TE} {d : PyData}
theorem ev_frzD (hi : g[i]? = some (.rf p)) (h : EvD H0 x ⟨g.set i m.ty, L, b⟩ te (.im d)) (n : Nl d) : EvD H0 x ⟨g, (p, m) :: L, b⟩ te (.im d) := ev_frz hi h fun t e => ⟨d, e, n⟩
theorem ev_frzD2 {q : Addr × MO} (hi : g[i]? = some (.rf p)) (h : EvD H0 x ⟨g.set i m.ty, q :: L, b⟩ te (.im d)) (n : Nl d) : EvD H0 x ⟨g, q :: (p, m) :: L, b⟩ te (.im d) := ev_swap (ev_frzD hi h n)
end
end Sx
set_option Elab.async false
set_option linter.all false
set_option maxRecDepth 100000
set_option maxHeartbeats 1000000
/-! Rules of the text that the layer lacks: sorted of a dict or a set of pairs, dict comprehensions with keys that are tuples. -/
namespace Sx
open PySem PySem.Spec PyProof.Rows L2 PySem.W

/-! ### sorted(x), x collected -/
mutual
theorem reads_in {h : Heap} : ∀ {v : Value} {d : PyData} {as : List Addr}, Reads h v d as → ∀ a ∈ as, ∃ o, h.get? a = some o
  | _, _, _, .none, _, m => nomatch m
  | _, _, _, .bool _, _, m => nomatch m
  | _, _, _, .int _ _, _, m => nomatch m
  | _, _, _, .str _ _, _, m => nomatch m
  | _, _, _, .list h1 _ _ r, a, m => by
    rcases List.mem_cons.mp m with m | m
    · rw [m]
      exact ⟨_, h1⟩
    · exact readsAll_in r a m
  | _, _, _, .tuple _ _ _ r, a, m => readsAll_in r a m
  | _, _, _, .dict h1 _ _ r r2, a, m => by
    rcases List.mem_append.mp m with m | m
    · rcases List.mem_cons.mp m with m | m
      · rw [m]
        exact ⟨_, h1⟩
      · exact readsAll_in r a m
    · exact readsAll_in r2 a m
theorem readsAll_in {h : Heap} : ∀ {v : List Value} {d : List PyData} {as : List Addr}, ReadsAll h v d as → ∀ a ∈ as, ∃ o, h.get? a = some o
  | _, _, _, .nil, _, m => nomatch m
  | _, _, _, .cons r r2, a, m => by
    rcases List.mem_append.mp m with m | m
    · exact reads_in r a m
    · exact readsAll_in r2 a m
end
section
variable {X : Cx} {pins : List (Addr × Obj)} {σ : L2.St} {H : Hp} {s : Shared}
/-- what collect gives of x reads as ds, without a change of what stands -/
def Colls (X : Cx) (H : Hp) (s : Shared) (x : Value) (ds : List PyData) : Prop := ∀ (R : List Value → Shared → Prop) (E : Value → Shared → Prop),
  (∀ (h' : Heap) (tk : Nat) (acc : List Value), (∀ b o, s.heap.get? b = some o → h'.get? b = some o) → EachIs (fun u d => ∃ v, RelV v u ∧ Dq H v d) acc ds → R acc { s with heap := h', toks := tk }) → wpAny (model X.prog X.w) X.A.in1 (collect x) R E s
theorem sorted_coll {x : Value} {ds : List PyData} {Q : VK} (I : Inv X pins σ H s) (hc : Colls X H s x ds) (hu : X.A.units + 65 < cLine) (ha : AllAlike ds) (hk : Sortable ds) (hz : ds.length ≤ 100000) (hd : ∀ d ∈ ds, d.depth ≤ 40)
    (q : ∀ p ys, H p = none → DqAll H ys (ds.mergeSort (dataLe false id)) → Q (.ref p) (upd H p (.lst ys))) : wpAny (model X.prog X.w) X.A (call (.builtin "sorted") [x]) (EP X pins σ Q) X.xe s := by
  refine Calls.call_function_entry PyProof.Rows.kind_sorted PyProof.Rows.plain_sorted PyProof.Rows.entry_sorted (PyProof.Rows.args_sorted1 _) ?_
  unfold Builtin.«sorted»
  refine wpAny_bind (m := checkCount "sorted" 1 1 _) (wpAny_pure ?_)
  refine wpAny_bind (hc _ _ fun h' tk acc hkeep heach => ?_)
  have I1 : Inv X pins σ H { s with heap := h', toks := tk } := I.kept hkeep
  have hal : acc.length = ds.length := heach.length
  have hsz : acc.length ≤ sizeLine := by
    rw [hal]
    exact Nat.le_trans hz (by decide)
  refine wpAny_bind (wpAny_newList ?_ hsz)
  have hoL : (h'.push (seqObj "list" acc.toArray 0)).get? h'.objs.size = some (seqObj "list" acc.toArray 0) := Heap.get?_push_size _ rfl
  show wpAny _ _ _ _ _ { s with heap := h'.push (seqObj "list" acc.toArray 0), toks := tk }
  have I2 : Inv X pins σ H { s with heap := h'.push (seqObj "list" acc.toArray 0), toks := tk } := I1.kept fun b o e => Heap.get?_push_of_some _ e
  have e0 : ds.map id = ds := List.map_id ds
  refine wpAny_bind (wpAny_holding (list_sort_data (enc := id) (R := fun u d => ∃ v, RelV v u ∧ Dq H v d) (s := { s with heap := h'.push (seqObj "list" acc.toArray 0), toks := tk }) hoL heach ?_ (by rw [e0]; exact ha) (by rw [e0]; exact hk) (Nat.le_trans hz (by decide)) (fun d m => ?_) fun out hl ho => ?_))
  · refine heach.mono fun u d ⟨v, r, q⟩ => ?_
    obtain ⟨as, hr⟩ := Dp.reads I1 d v u q.dp r
    refine ⟨as, PyProof.Rows.Reads.keeps (fun _ _ e => Heap.get?_push_of_some _ e) hr, fun m => ?_⟩
    obtain ⟨o, e⟩ := reads_in hr _ m
    exact absurd (Heap.lt_size e) (Nat.lt_irrefl _)
  · have := hd d m
    show X.A.units + 1 + 1 + d.depth < cLine
    omega
  · obtain ⟨ys, ry, hy⟩ := of_each ho
    obtain ⟨e', he'⟩ := PyProof.Rows.sortedHeap_at (vs := acc) (out := out.toArray) hoL
    have hlen : ys.length ≤ sizeLine := by
      rw [ry.length, hl]
      exact Nat.le_trans hz (by decide)
    refine wpAny_pure ⟨_, rfl, .ref h'.objs.size, upd H h'.objs.size (.lst ys), I1.laid (t' := tk) (fun b u e => ?_) (Nat.le_refl _) (show ObjOk X.prog X.w _ _ _ (.lst ys) from ⟨hlen, out, e', ry, he'⟩), rfl, q _ ys (I1.hok.fresh (Nat.le_refl _)) hy⟩
    have hb : b < h'.objs.size := Heap.lt_size e
    rw [PyProof.Rows.sortedHeap_old (Nat.ne_of_lt hb) (by rw [size_push']; exact Nat.lt_succ_of_lt hb)]
    exact Heap.get?_push_of_some _ e
end

def kyD : Key → PyData
  | .inl i => .int i
  | .inr z => .str z
def ktD (k : List Key) : PyData := .tuple (k.map kyD)
theorem dq_ky {H : Hp} : ∀ k : Key, Dq H (kV k) (kyD k)
  | .inl i => .int i
  | .inr z => .str z
theorem dq_kys {H : Hp} : ∀ k : List Key, DqAll H (k.map kV) (k.map kyD)
  | [] => .nil
  | k :: r => .cons (dq_ky k) (dq_kys r)
theorem ktD_kKK (k : Key2) : ktD (kKK k) = kD k := rfl
theorem each_items {R : Value → PyData → Prop} : ∀ {acc : List Value} {ds : List PyData}, acc.length = ds.length → (∀ (j : Nat) (v : Value) (d : PyData), acc[j]? = some v → ds[j]? = some d → R v d) → EachIs R acc ds
  | [], [], _, _ => .nil
  | v :: acc, d :: ds, hl, h => .cons (h 0 v d rfl rfl) (each_items (by simpa using hl) fun j v d h1 h2 => h (j + 1) v d (by simpa using h1) (by simpa using h2))
  | [], _ :: _, hl, _ => by simp at hl
  | _ :: _, [], hl, _ => by simp at hl
section
variable {X : Cx} {pins : List (Addr × Obj)} {σ : L2.St} {H : Hp} {s : Shared}
theorem kt_pair {kvs : List (List Key × V)} {xs : List (List Key × Addr × Value)} (r : KT H kvs xs) (j : Nat) {x : List Key × Addr × Value} (h : xs[j]? = some x) : ∃ y, kvs[j]? = some (x.1, y) ∧ H x.2.1 = some (.tup (x.1.map kV)) := by
  induction r generalizing j with
  | nil => simp at h
  | cons h1 _ ih =>
    cases j with
    | zero =>
      have h := Option.some.inj h
      subst h
      rename_i p q _ _ _
      refine ⟨p.2, ?_, ?_⟩
      · show some p = some (q.1, p.2)
        rw [← h1.1]
      · rw [← h1.1]
        exact h1.2.1
    | succ j =>
      obtain ⟨y, h2, h3⟩ := ih j (by simpa using h)
      exact ⟨y, by simpa using h2, h3⟩
theorem colls_dT {a : Addr} {kvs : List (List Key × V)} (I : Inv X pins σ H s) (hcalm : X.calm = true) (hd : Rd H a (.dT kvs)) : Colls X H s (.ref a) (kvs.map fun p => ktD p.1) := fun R E hR => by
  obtain ⟨z, lo, xs, rel, o, es, ep, h1, h2, h3, h4, _, _⟩ := dt_rd I.hok hd
  have hl : kvs.length = xs.length := Paired.length rel
  have hsz : es.size = xs.length := by rw [← Array.length_toList, h4, List.length_map]
  refine kdu_collect (A := X.A.in1) (KdlSrc.rawDict (es := es) (ep := ep) lo) (I.ok.hd hcalm) ⟨o, h1, h2, h3⟩ (by rw [hsz, ← hl]; exact z) fun h' tk acc hk hacc => ?_
  refine hR h' tk acc.toList hk (each_items ?_ fun j v d h5 h6 => ?_)
  · rw [Array.length_toList, hacc.1, hsz, List.length_map, hl]
  · obtain ⟨hi, e⟩ := hacc.2 j v (by rw [← Array.getElem?_toList]; exact h5)
    have hj : j < xs.length := by rw [← hsz]; exact hi
    have hx : xs[j]? = some xs[j] := List.getElem?_eq_getElem hj
    generalize xs[j] = x at hx
    obtain ⟨y, hy, hb⟩ := kt_pair rel j hx
    have he : es[j] = entryOfKey (tupleKind (mixKind X.prog X.w)) x := by
      have : es.toList[j]? = some (entryOfKey (tupleKind (mixKind X.prog X.w)) x) := by rw [h4, List.getElem?_map, hx]; rfl
      rw [Array.getElem?_toList, Array.getElem?_eq_getElem hi] at this
      exact Option.some.inj this
    rw [he] at e
    subst e
    rw [List.getElem?_map, hy] at h6
    cases h6
    exact ⟨.ref x.2.1, rfl, .tup hb (dq_kys _)⟩
theorem colls_dK {a : Addr} {kvs : List (Key × V)} (I : Inv X pins σ H s) (hcalm : X.calm = true) (hd : Rd H a (.dK kvs)) : Colls X H s (.ref a) (kvs.map fun p => kyD p.1) := fun R E hR => by
  obtain ⟨z, lo, vs, rel, dd⟩ := dk_rd I.hok hd
  obtain ⟨ep, hat⟩ := dd.dictAt
  have hkeys : kvs.map (·.1) = vs.map (·.1) := rel.keys
  have hl : kvs.length = vs.length := rel.length
  refine kdu_collect (A := X.A.in1) (kdl_dict (knd := mixKind X.prog X.w) (kvs := vs) (ep := ep) lo) (I.ok.hd hcalm) hat (by rw [← hl]; exact z) fun h' tk acc hk hacc => ?_
  refine hR h' tk acc.toList hk (each_items ?_ fun j v d h5 h6 => ?_)
  · rw [Array.length_toList, hacc.1, List.length_map, hl]
  · obtain ⟨k, x, e1, e2⟩ := hacc.2 j v (by rw [← Array.getElem?_toList]; exact h5)
    have e3 : (kvs.map (·.1))[j]? = some k := by
      rw [hkeys, List.getElem?_map, e1]
      rfl
    have e4 : (kvs.map fun p => kyD p.1)[j]? = some (kyD k) := by
      rw [List.getElem?_map] at e3 ⊢
      cases h : kvs[j]? with
      | none =>
        rw [h] at e3
        cases e3
      | some q =>
        rw [h] at e3
        have e3 : q.1 = k := Option.some.inj e3
        subst e3
        rfl
    rw [e4] at h6
    cases h6
    refine ⟨kV k, ?_, dq_ky k⟩
    rcases keyIs_shape e2 with ⟨i, t, ek, ev⟩ | ⟨z, t, ek, ev⟩
    · subst ek
      exact ⟨t, ev⟩
    · subst ek
      exact ⟨t, ev⟩
/-- sorted of a dict: its keys -/
def rSortDT : List V → Hp → VK → Prop := fun xs H Q => ∃ (a : Addr) (kvs : List (List Key × V)) (ds : List PyData), xs = [.ref a] ∧ Rd H a (.dT kvs) ∧ ds = kvs.map (fun p => ktD p.1) ∧ AllAlike ds ∧ Sortable ds ∧ ds.length ≤ 100000 ∧ (∀ d ∈ ds, d.depth ≤ 40) ∧
  ∀ p ys, H p = none → DqAll H ys (ds.mergeSort (dataLe false id)) → Q (.ref p) (upd H p (.lst ys))
def rSortDK : List V → Hp → VK → Prop := fun xs H Q => ∃ (a : Addr) (kvs : List (Key × V)) (ds : List PyData), xs = [.ref a] ∧ Rd H a (.dK kvs) ∧ ds = kvs.map (fun p => kyD p.1) ∧ AllAlike ds ∧ Sortable ds ∧ ds.length ≤ 100000 ∧ (∀ d ∈ ds, d.depth ≤ 40) ∧
  ∀ p ys, H p = none → DqAll H ys (ds.mergeSort (dataLe false id)) → Q (.ref p) (upd H p (.lst ys))
theorem cr_sortDT (hc : X.calm = true) (hu : X.A.units + 65 < cLine) : CallR X (.builtin "sorted") rSortDT := by
  intro pins s σ H xs us Q I r ⟨a, kvs, ds, e, hd, e2, ha, hk, hz, hp, q⟩
  subst e
  rw [Vals.ref1 r]
  exact sorted_coll I (by rw [e2]; exact colls_dT I hc hd) hu ha hk hz hp q
theorem cr_sortDK (hc : X.calm = true) (hu : X.A.units + 65 < cLine) : CallR X (.builtin "sorted") rSortDK := by
  intro pins s σ H xs us Q I r ⟨a, kvs, ds, e, hd, e2, ha, hk, hz, hp, q⟩
  subst e
  rw [Vals.ref1 r]
  exact sorted_coll I (by rw [e2]; exact colls_dK I hc hd) hu ha hk hz hp q
end
end Sx
set_option Elab.async false
set_option linter.all false
set_option maxRecDepth 100000
set_option maxHeartbeats 1000000
/-! Dict comprehensions whose keys are tuples. -/
namespace Sx
open PySem PySem.Spec PyProof.Rows L2 PySem.W
/-- {k: v for target in iter}, keys tuples -/
def tDcT (wi : TI) (g : TG) (tt : TT) (tk tv : TE) (vs : List Nat) : TE := fun σ H Q => wi σ H fun J H1 => ∀ D, H1 D = none → ∃ W : Nat → Nat → Hp → Prop, (∃ m, W 0 m (upd H1 D (.dT []))) ∧ ∀ i m H2, W i m H2 →
  (J.stop i H2 ∧ Q (.ref D) H2) ∨ (J.go i H2 ∧ ∃ N : Hp → Prop, (∀ H', N H' → ∃ m', m' < m ∧ W (i + 1) m' H') ∧ ∀ x H', J.yld i H2 x H' → g x (wipe σ vs) H' fun σ2 H3 => wipe σ2 vs = wipe σ vs ∧ tt σ2 H3 fun b H4 =>
    if b = true then tk σ2 H4 fun y H5 => tv σ2 H5 fun z H6 => ∃ (kvs : List (List Key × V)) (k : List Key) (q : Addr), y = .ref q ∧ H6 q = some (.tup (k.map kV)) ∧ H6 D = some (.dT kvs) ∧ kvs.length < sizeLine ∧ N (upd H6 D (.dT (putK kvs k z))) else N H4)
/-- one entry is put into the dict that the comprehension makes -/
theorem put_dT {X : Cx} {pn : List (Addr × Obj)} {σ : L2.St} {H : Hp} {s : Shared} {F : Value → Shared → Prop} {D q : Addr} {kvs : List (List Key × V)} {k : List Key} {z : V} {uk uz : Value} {Q : Unit → Shared → Prop} (room : X.A.units + 1 < cLine)
    (I : Inv X pn σ H s) (hD : H D = some (.dT kvs)) (few : kvs.length < sizeLine) (hq : H q = some (.tup (k.map kV))) (ruk : RelV (.ref q) uk) (ruz : RelV z uz) (go : ∀ t, Inv X pn σ (upd H D (.dT (putK kvs k z))) t → Q () t) :
    wpAny (model X.prog X.w) X.A (dictSet D uk uz) Q F s := by
  obtain rfl : uk = .ref q := ruk
  obtain ⟨few', nsm, es, rel, dd⟩ := dt_of I.hok hD
  have fits : (putK kvs k z).length ≤ sizeLine := by
    have h1 := length_putK kvs k z
    omega
  refine wpAny_dictSet_heap (hsz := Nat.le_trans (Nat.le_of_eq (Paired.length rel).symm) few') (show X.A.units < cLine from Nat.lt_of_succ_lt room) (key_of I.hok hq) dd fun h2 d2 keep => go _ ?_
  obtain ⟨o2, e2, p2, k1, k2, k3, k4, _, k6⟩ := d2
  have rel2 : KT (upd H D (.dT (putK kvs k z))) (putK kvs k z) _ := (rel.put k hq ruz).keeps fun c ys hc => (upd_ne (ne_of hc hD fun e => nomatch e)).trans hc
  exact d_write I (by rw [hD]; exact trivial) keep ⟨o2, k1⟩ ⟨fits, nsm, _, rel2, o2, e2, p2, k1, k2, k3, k4, k6⟩
section
variable {X : Cx}
theorem pe_dcT {kx vx tg iter : Expr} {ifs : List Expr} {scope : Scope} {own : List (Str × Nat)} {pos : Pos} {wi : TI} {g : TG} {tt : TT} {tk tv : TE} (room : X.A.units + 1 < cLine) (hc : X.calm = true) (hN : X.N.Nodup) (hi : PI X tg iter wi) (ok : BlkOk X.N X.env.scope scope own)
    (hg : ∀ (s : Shared) (H : Hp) (C : Addr) (cl : List (Str × Addr)) (fp : List Addr), PG (X.blk s H scope (compEnvC scope cl C X.env) fp) tg g) (ht : ∀ (s : Shared) (H : Hp) (C : Addr) (cl : List (Str × Addr)) (fp : List Addr), PTs (X.blk s H scope (compEnvC scope cl C X.env) fp) ifs tt)
    (hk : ∀ (s : Shared) (H : Hp) (C : Addr) (cl : List (Str × Addr)) (fp : List Addr), PE (X.blk s H scope (compEnvC scope cl C X.env) fp) kx tk)
    (he : ∀ (s : Shared) (H : Hp) (C : Addr) (cl : List (Str × Addr)) (fp : List Addr), PE (X.blk s H scope (compEnvC scope cl C X.env) fp) vx tv) (hs : ∀ x, foldedSetIterable iter X.env x = pure x := by intro _; rfl) :
    PE X (.DictComp kx vx [⟨tg, iter, ifs, 0⟩] scope pos) (tDcT wi g tt tk tv (own.map (·.2))) := by
  constructor
  intro pn s0 σ H0 Q I0 wish
  rw [arm_eval_DictComp]
  have clo : ∀ y ∈ scope.names, y.2 = .free → ∃ c, X.env.cells.lookup y.1 = some c := fun y my fy => (ok.free y my fy).elim (fun z => I0.ok.has _ (.inl z)) (fun z => I0.ok.has _ (.inr z))
  refine wpAny_comprehension_free (use := none) rfl hs (closure_ok clo) ok.kind (fun y my fy => by rw [ok.uniq y my, fy]) (thn (hi.run pn s0 σ H0 _ I0 wish) fun _ _ w1 => thn w1 fun itv sB w2 => ?_)
  obtain ⟨it, own', tn, J, HB, rfl, IB, T, stB, offB, wB⟩ := w2
  refine wpAny_newObj_type (newEnv_comp ?_)
  -- the dict's own place
  generalize hD : sB.heap.objs.size = D
  have newD : HB D = none := IB.hok.fresh (Nat.le_of_eq hD)
  obtain ⟨W, ⟨mm, W0⟩, turn⟩ := wB D newD
  generalize hsC : ({ sB with heap := sB.heap.push { cls := .type "dict", data := .dict #[] } } : Shared) = sC
  have hpC : sC.heap = sB.heap.push { cls := .type "dict", data := .dict #[] } := congrArg (fun z : Shared => z.heap) hsC.symm
  have IC : Inv X pn σ (upd HB D (.dT [])) sC := by
    rw [← hsC]
    exact IB.laid (t' := sB.toks) (fun b o e => Heap.get?_push_of_some _ e) (Nat.le_of_eq hD) (hD ▸ dt_empty sB.heap IB.big)
  have offC : ∀ b ∈ own', FpOk X pn (upd HB D (.dT [])) b ∧ b < sC.heap.objs.size := fun b mb => by
    obtain ⟨ob, eb, _⟩ := T.obj _ _ stB b mb
    have lt : b < sB.heap.objs.size := Heap.lt_size eb
    refine ⟨⟨?_, (offB b mb).2⟩, ?_⟩
    · rw [upd_ne (Nat.ne_of_lt (hD ▸ lt))]
      exact (offB b mb).1
    · rw [hpC, Heap.size_push]
      exact Nat.lt_succ_of_lt lt
  have stC : tn 0 sC.heap := T.keep _ _ _ stB fun b _ ob eb => by
    rw [hpC]
    exact Heap.get?_push_of_some _ eb
  have IE := block_start IC ok hN offC
  show codeAny _ _ (.compStart (.DictComp kx vx [⟨tg, iter, ifs, 0⟩] scope pos) 0 (.ref it) (.ref D) (compEnvC scope (cellsFrom (sC.heap.objs.size + 1) scope.names (cloFrom X.env.cells scope.names [])) sC.heap.objs.size X.env)) (compPost (model X.prog X.w) X.A X.xe none _ (.ref D) sC.heap.objs.size) { sC with heap := pushCells (sC.heap.push { cls := .type "dict", data := .dict #[] }) scope.names }
  generalize hcl : cellsFrom (sC.heap.objs.size + 1) scope.names (cloFrom X.env.cells scope.names []) = cl at IE ⊢
  have offD : ∀ b ∈ own', (upd HB D (.dT [])) b = none := fun b mb => (offC b mb).1.1
  have Pg := hg sC (upd HB D (.dT [])) sC.heap.objs.size cl own'
  have Pt := ht sC (upd HB D (.dT [])) sC.heap.objs.size cl own'
  have Pk := hk sC (upd HB D (.dT [])) sC.heap.objs.size cl own'
  have Pv := he sC (upd HB D (.dT [])) sC.heap.objs.size cl own'
  generalize hce : compEnvC scope cl sC.heap.objs.size X.env = ce at IE Pg Pt Pk Pv ⊢
  have hloc : ce.locals = sC.heap.objs.size := by rw [← hce]; rfl
  generalize hHC : upd HB D (.dT []) = HC at IC IE Pg Pt Pk Pv W0 offD offC
  generalize hsE : ({ sC with heap := pushCells (sC.heap.push { cls := .type "dict", data := .dict #[] }) scope.names } : Shared) = sE at IE ⊢
  have stE : tn 0 sE.heap := T.keep _ _ _ stC fun b _ ob eb => by
    rw [← hsE]
    exact pushCells_keeps _ _ _ _ (Heap.get?_push_of_some _ eb)
  have still : ∀ {τ : L2.St} {G : Hp} {t : Shared}, Inv (X.blk sC HC scope ce own') [] τ G t → (∀ b ∈ own', G b = none) → ∀ b ∈ own', FpOk (X.blk sC HC scope ce own') [] G b := fun J' no b mb =>
    ⟨no b mb, (J'.ok.exf b mb).1, J'.ok.exfs b mb, .inl mb, fun x c ec => (J'.ok.exf b mb).2 x c ec, fun p hp => absurd (show p ∈ ([] : List (Addr × Obj)) ++ [] from hp) List.not_mem_nil⟩
  have around : codeAny (model X.prog X.w) X.A (.compLoop (.DictComp kx vx [⟨tg, iter, ifs, 0⟩] scope pos) 0 (.ref it) (.ref D) ce) (compPost (model X.prog X.w) X.A X.xe none (fun v t => ∃ xv G, Inv X pn σ G t ∧ RelV xv v ∧ Q xv G) (.ref D) sC.heap.objs.size) sE := by
    refine compLoop_anyD (fun m t => ∃ i G, Inv (X.blk sC HC scope ce own') [] (wipe σ (own.map (·.2))) G t ∧ tn i t.heap ∧ (∀ b ∈ own', G b = none) ∧ W i m G) ?_ mm ⟨0, HC, IE, stE, offD, W0⟩
    rintro m t ⟨i, G, It, stt, not, Wt⟩
    rcases turn i m G Wt with ⟨halt, fin⟩ | ⟨on, N, less, body⟩
    · -- nothing is left
      refine thnF (T.done (X.blk sC HC scope ce own') rfl rfl rfl hc i [] t _ G (fun _ _ => False) It (still It not) stt halt) fun _ t1 ⟨er, It1⟩ => ?_
      subst er
      have back : Inv X pn σ G t1 := IC.call' (ch := own') It1.os It1.base It1.hok It1.bare fun b mb => let z := (offC b mb).1; ⟨z.2.2.2.1, z.2.1, z.2.2.2.2.1, z.2.2.2.2.2⟩
      have gone : G sC.heap.objs.size = none := hloc ▸ It1.free
      obtain ⟨mt, hmt, _⟩ := It1.loc
      have hmt : t1.heap.Ns sC.heap.objs.size mt := hloc ▸ (show t1.heap.Ns ce.locals mt from hmt)
      obtain ⟨u0, u1, u2, u3, u4, u5⟩ := IC.fpOk (Nat.le_refl _) gone
      exact ⟨mt, hmt, fun hz sb => ⟨.ref D, G, back.turned (t' := t1.toks) (fun b ob mb eb => (sb.2 b mb).trans eb) u0 u1 u3 u4 u5, rfl, fin⟩⟩
    · -- one more turn
      refine thnF (T.item (X.blk sC HC scope ce own') rfl rfl rfl hc i [] t _ G (fun _ _ => False) It (still It not) stt on) fun _ t1 ⟨u, er, w3⟩ => ?_
      subst er
      refine thnF w3 fun _ t2 ⟨xv, G2, It2, rx, yx, st2, not2⟩ => ?_
      refine thnF (Pg.run _ t2 _ G2 xv u _ (It2.pinned (still It2 not2) (T.obj _ _ st2)) rx (body xv G2 yx)) fun _ t3 ⟨σ3, G3, It3, same3, w4⟩ => thnF (Pt.run _ t3 σ3 G3 _ It3 w4) fun b t4 ⟨G4, It4, w5⟩ => ?_
      have again : ∀ {t' : Shared} {G' : Hp}, Inv (X.blk sC HC scope ce own') ([] ++ pinsAt own' t2.heap) σ3 G' t' → N G' → ∃ m', m' < m ∧ ∃ i G, Inv (X.blk sC HC scope ce own') [] (wipe σ (own.map (·.2))) G t' ∧ tn i t'.heap ∧ (∀ b ∈ own', G b = none) ∧ W i m' G := fun {t' G'} It' hN' => by
        obtain ⟨m', lt, W'⟩ := less G' hN'
        have held : ∀ b ∈ own', ∀ ob, t2.heap.get? b = some ob → t'.heap.get? b = some ob ∧ G' b = none := fun b mb ob eb => by
          have z := It'.pin (b, ob) (List.mem_append_right _ (List.mem_append_right _ (mem_pinsAt mb eb)))
          exact ⟨z.1, z.2.1⟩
        refine ⟨m', lt, i + 1, G', (It'.unpinned (pins := [])).weak (by rw [← same3, wipe_length]) fun j v ev => ?_, T.keep _ _ _ st2 fun b mb ob eb => (held b mb ob eb).1, fun b mb => ?_, W'⟩
        · rw [← same3] at ev
          exact (wipe_some ev).1
        · obtain ⟨ob, eb, _⟩ := T.obj _ _ st2 b mb
          exact (held b mb ob eb).2
      cases b with
      | false =>
        rw [if_neg Bool.false_ne_true] at w5 ⊢
        exact again It4 w5
      | true =>
        rw [if_pos rfl] at w5 ⊢
        refine thnF (Pk.run _ t4 σ3 G4 _ It4 w5) fun uk t5 ⟨yk, G5, It5, rk, w6⟩ => thnF (Pv.run _ t5 σ3 G5 _ It5 w6) fun uv t6 ⟨yv, G6, It6, rv, kvs, k, q, ek, hq, hD6, few, hN6⟩ => ?_
        subst ek
        exact put_dT (X := X.blk sC HC scope ce own') room It6 hD6 few hq rk rv fun t7 It7 => again It7 hN6
  exact codeAny_compStart_dict around (T.self X.A 0 _ _ _ stE around)
end
end Sx
set_option Elab.async false
set_option linter.all false
set_option maxRecDepth 100000
set_option maxHeartbeats 1000000
/-! tuple(zip(a, b)) of two tuples: the pairs stay. -/
namespace Sx
open PySem PySem.Spec PyProof.Rows L2 PySem.W
section
variable {prog : Program} {w : World} {A : Around} {E : Value → Shared → Prop} {s : Shared}
/-- the zip at z over the tuples at p and q, m turns done -/
structure ZS (z TI TO u v p q : Addr) (xs ys : Array Value) (m : Nat) (h : Heap) : Prop where
  ti : IsPair h TI (.ref u) (.ref v)
  to : ∃ a b, IsPair h TO a b
  iu : h.IsTupleIter u p m
  iv : h.IsTupleIter v q m
  tp : h.IsTuple p xs
  tq : h.IsTuple q ys
  zs : IsZip h z TI TO .none ∨ ∃ T f oT, IsZipHeld h z TI TO T f ∧ h.get? T = some oT
theorem held_item {z TI TO T u v p q : Addr} {f : Bool} {oT : Obj} {m : Nat} {xs ys : Array Value} {x y : Value} {Q : Value → Shared → Prop} (D : ZipApart z TI TO u v p q) (hz : IsZipHeld s.heap z TI TO T f) (hT : s.heap.get? T = some oT)
    (ti : IsPair s.heap TI (.ref u) (.ref v)) (iu : s.heap.IsTupleIter u p m) (iv : s.heap.IsTupleIter v q m) (tp : s.heap.IsTuple p xs) (tq : s.heap.IsTuple q ys) (hx : xs[m]? = some x) (hy : ys[m]? = some y)
    (go : ∀ h2, IsZipHeld h2 z TI TO T true → h2.IsTupleIter u p (m + 1) → h2.IsTupleIter v q (m + 1) → IsPair h2 s.heap.objs.size x y → h2.objs.size = s.heap.objs.size + 1 → (∀ c o, c ≠ z → c ≠ u → c ≠ v → s.heap.get? c = some o → h2.get? c = some o) → Q (.ref s.heap.objs.size) { s with heap := h2 }) :
    wpAny (model prog w) A (Builtin.«zip.__next__» ⟨[.ref z], []⟩) (fun fin t => ∃ r, fin = .done (.ret r) ∧ Q r t) E s := by
  show wpAny _ _ (field (.ref z) 2 >>= _) _ _ _
  refine wpAny_bind (wpAny_field hz rfl (x := .bool false) rfl (?_ : wpAny _ _ (field (.ref z) 3 >>= _) _ _ _))
  refine wpAny_bind (wpAny_field hz rfl (x := .ref TI) rfl (wpAny_bind (wpAny_seqItems ti rfl (?_ : wpAny _ _ (Builtin.SmallTypes.ownedTupleIsFree (.ref z) >>= _) _ _ _))))
  refine wpAny_bind (wpAny_tupleHeld_zip hz hT fun ha za sa => ?_)
  simp only [Bool.false_eq_true, if_false]
  refine wpAny_bind ?_
  rw [← Array.forIn_toList]
  simp only [List.forIn_cons, List.forIn_nil]
  refine wpAny_bind (wpAny_bind (wpAny_holding (?_ : wpAny _ _ (Builtin.SmallTypes.nextOf (.ref u) >>= _) _ _ _)))
  have xa := sa.extBut
  refine wpAny_bind (RZ.nextOf_tuple_item (s := { s with heap := ha }) (iu.extBut xa D.i1z) (tp.extBut xa D.l1z) hx fun hb ub sb => wpAny_pure (wpAny_pure ?_))
  have xb := sb.extBut
  refine wpAny_bind (wpAny_bind (wpAny_holding (?_ : wpAny _ _ (Builtin.SmallTypes.nextOf (.ref v) >>= _) _ _ _)))
  refine wpAny_bind (RZ.nextOf_tuple_item (s := { s with heap := hb }) ((iv.extBut xa D.i2z).extBut xb D.i12.symm) ((tq.extBut xa D.l2z).extBut xb D.l2i1) hy fun hc vc sc => wpAny_pure (wpAny_pure (wpAny_pure ?_)))
  have xc := sc.extBut
  show wpAny _ _ (newTuple [x, y] >>= _) _ _ _
  refine wpAny_bind (wpAny_newTuple (wpAny_pure ⟨_, rfl, ?_⟩))
  have size3 : hc.objs.size = s.heap.objs.size := sc.1.trans (sb.1.trans sa.1)
  have kept : ∀ c o, c ≠ z → c ≠ u → c ≠ v → s.heap.get? c = some o → hc.get? c = some o := fun c o n1 n2 n3 e => xc _ _ n3 (xb _ _ n2 (xa _ _ n1 e))
  have zc : IsZipHeld hc z TI TO T true := xc _ _ D.i2z.symm (xb _ _ D.i1z.symm za)
  have uc : hc.IsTupleIter u p (m + 1) := ub.extBut xc D.i12
  have pr : IsPair (hc.push { cls := .type "tuple", data := .seq #[x, y] }) hc.objs.size x y := Heap.get?_push_size _ rfl
  have sz : (hc.push { cls := .type "tuple", data := .seq #[x, y] }).objs.size = hc.objs.size + 1 := Heap.size_push ..
  show Q (.ref hc.objs.size) _
  rw [size3] at pr sz ⊢
  exact go _ (Heap.get?_push_of_some _ zc) (uc.at fun o e => Heap.get?_push_of_some _ e) (vc.at fun o e => Heap.get?_push_of_some _ e) pr sz fun c o n1 n2 n3 e => Heap.get?_push_of_some _ (kept c o n1 n2 n3 e)
theorem held_end {z TI TO T u v p q : Addr} {f : Bool} {oT : Obj} {m : Nat} {xs ys : Array Value} {Q : Fin → Shared → Prop} (quiet : A.handled = none) (D : ZipApart z TI TO u v p q) (hz : IsZipHeld s.heap z TI TO T f) (hT : s.heap.get? T = some oT)
    (ti : IsPair s.heap TI (.ref u) (.ref v)) (iu : s.heap.IsTupleIter u p m) (iv : s.heap.IsTupleIter v q m) (tp : s.heap.IsTuple p xs) (tq : s.heap.IsTuple q ys) (over : xs[m]? = none ∨ ys[m]? = none)
    (go : ∀ h2 e, (∀ c o, c ≠ z → c ≠ u → c ≠ v → s.heap.get? c = some o → h2.get? c = some o) → (∃ o, h2.get? e = some o ∧ o.cls = .type "StopIteration") → E (.ref e) { s with heap := h2 }) :
    wpAny (model prog w) A (Builtin.«zip.__next__» ⟨[.ref z], []⟩) Q E s := by
  show wpAny _ _ (field (.ref z) 2 >>= _) _ _ _
  refine wpAny_bind (wpAny_field hz rfl (x := .bool false) rfl (?_ : wpAny _ _ (field (.ref z) 3 >>= _) _ _ _))
  refine wpAny_bind (wpAny_field hz rfl (x := .ref TI) rfl (wpAny_bind (wpAny_seqItems ti rfl (?_ : wpAny _ _ (Builtin.SmallTypes.ownedTupleIsFree (.ref z) >>= _) _ _ _))))
  refine wpAny_bind (wpAny_tupleHeld_zip hz hT fun ha za sa => ?_)
  simp only [Bool.false_eq_true, if_false]
  refine wpAny_bind ?_
  rw [← Array.forIn_toList]
  simp only [List.forIn_cons, List.forIn_nil]
  refine wpAny_bind (wpAny_bind (wpAny_holding (?_ : wpAny _ _ (Builtin.SmallTypes.nextOf (.ref u) >>= _) _ _ _)))
  have xa := sa.extBut
  cases hx : xs[m]? with
  | none => exact wpAny_bind (RZ.nextOf_tuple_end (s := { s with heap := ha }) quiet (iu.extBut xa D.i1z) (tp.extBut xa D.l1z) hx fun hb e kb stop => go hb e (fun c o n1 n2 _ g => kb _ _ n2 (xa _ _ n1 g)) stop)
  | some x =>
    have hy : ys[m]? = none := over.resolve_left fun g => by rw [hx] at g; cases g
    refine wpAny_bind (RZ.nextOf_tuple_item (s := { s with heap := ha }) (iu.extBut xa D.i1z) (tp.extBut xa D.l1z) hx fun hb ub sb => wpAny_pure (wpAny_pure ?_))
    have xb := sb.extBut
    refine wpAny_bind (wpAny_bind (wpAny_holding (?_ : wpAny _ _ (Builtin.SmallTypes.nextOf (.ref v) >>= _) _ _ _)))
    exact wpAny_bind (RZ.nextOf_tuple_end (s := { s with heap := hb }) quiet ((iv.extBut xa D.i2z).extBut xb D.i12.symm) ((tq.extBut xa D.l2z).extBut xb D.l2i1) hy fun hc e kc stop => go hc e (fun c o n1 n2 n3 g => kc _ _ n3 (xb _ _ n2 (xa _ _ n1 g))) stop)
/-- one turn -/
theorem zs_item {z TI TO u v p q : Addr} {m : Nat} {xs ys : Array Value} {x y : Value} {Q : Option Value → Shared → Prop} (D : ZipApart z TI TO u v p q) (Z : ZS z TI TO u v p q xs ys m s.heap) (hx : xs[m]? = some x) (hy : ys[m]? = some y)
    (go : ∀ h2, ZS z TI TO u v p q xs ys (m + 1) h2 → IsPair h2 s.heap.objs.size x y → s.heap.objs.size < h2.objs.size → (∀ c o, c ≠ z → c ≠ TO → c ≠ u → c ≠ v → s.heap.get? c = some o → h2.get? c = some o) → Q (some (.ref s.heap.objs.size)) { s with heap := h2 }) :
    wpAny (model prog w) A (pyNext (.ref z)) Q E s := by
  obtain ⟨ti, ⟨a, b, to⟩, iu, iv, tp, tq, zs⟩ := Z
  rcases zs with zs | ⟨T, f, oT, zs, hT⟩
  · refine RZ.pyNext_zipT_item D zs ti to iu iv tp tq hx hy fun h2 z2 to2 iu2 iv2 pr sz kept => go h2 ⟨kept _ _ D.TIz D.TITO D.TIi1 D.TIi2 ti, ⟨_, _, to2⟩, iu2, iv2, ?_, ?_, .inr ⟨_, false, _, z2, pr⟩⟩ pr (by omega) kept
    · obtain ⟨o, ho, r⟩ := tp
      exact ⟨o, kept _ _ D.l1z D.l1TO D.l1i1 D.l1i2 ho, r⟩
    · obtain ⟨o, ho, r⟩ := tq
      exact ⟨o, kept _ _ D.l2z D.l2TO D.l2i1 D.l2i2 ho, r⟩
  · have ty : s.TypeIs (.ref z) "zip" := ⟨_, zs, rfl⟩
    unfold pyNext
    refine wpAny_bind (wpAny_attempt (wpAny_callSpecial?_slot (name := Str.ofString "__next__") ty F.slot_zip_next (wpAny_call_entry F.slot_zip_next ty F.entry_zip_next ?_ (F.args_zip_next_1 _))))
    refine held_item D zs hT ti iu iv tp tq hx hy fun h2 z2 iu2 iv2 pr sz kept => wpAny_pure (go h2 ⟨kept _ _ D.TIz D.TIi1 D.TIi2 ti, ⟨a, b, kept _ _ D.TOz D.TOi1 D.TOi2 to⟩, iu2, iv2, ?_, ?_, .inr ⟨T, true, ?_⟩⟩ pr (by omega) fun c o n1 _ n3 n4 e => kept c o n1 n3 n4 e)
    · obtain ⟨o, ho, r⟩ := tp
      exact ⟨o, kept _ _ D.l1z D.l1i1 D.l1i2 ho, r⟩
    · obtain ⟨o, ho, r⟩ := tq
      exact ⟨o, kept _ _ D.l2z D.l2i1 D.l2i2 ho, r⟩
    · by_cases e1 : T = z
      · exact ⟨_, z2, by rw [e1]; exact z2⟩
      · by_cases e2 : T = u
        · obtain ⟨o, ho, _⟩ := iu2
          exact ⟨o, z2, by rw [e2]; exact ho⟩
        · by_cases e3 : T = v
          · obtain ⟨o, ho, _⟩ := iv2
            exact ⟨o, z2, by rw [e3]; exact ho⟩
          · exact ⟨oT, z2, kept _ _ e1 e2 e3 hT⟩
theorem zs_end {z TI TO u v p q : Addr} {m : Nat} {xs ys : Array Value} {Q : Option Value → Shared → Prop} (quiet : A.handled = none) (D : ZipApart z TI TO u v p q) (Z : ZS z TI TO u v p q xs ys m s.heap) (over : xs[m]? = none ∨ ys[m]? = none)
    (go : ∀ h2, (∀ c o, c ≠ z → c ≠ TO → c ≠ u → c ≠ v → s.heap.get? c = some o → h2.get? c = some o) → Q none { s with heap := h2 }) : wpAny (model prog w) A (pyNext (.ref z)) Q E s := by
  obtain ⟨ti, ⟨a, b, to⟩, iu, iv, tp, tq, zs⟩ := Z
  rcases zs with zs | ⟨T, f, oT, zs, hT⟩
  · exact RZ.pyNext_zipT_end quiet D zs ti to iu iv tp tq over go
  · have ty : s.TypeIs (.ref z) "zip" := ⟨_, zs, rfl⟩
    unfold pyNext
    refine wpAny_bind (wpAny_attempt (wpAny_callSpecial?_slot (name := Str.ofString "__next__") ty F.slot_zip_next (wpAny_call_entry F.slot_zip_next ty F.entry_zip_next ?_ (F.args_zip_next_1 _))))
    refine held_end quiet D zs hT ti iu iv tp tq over fun h2 e kept ⟨o, ho, hcl⟩ => ?_
    exact wpAny_bind (wpAny_isInstance (T := "StopIteration") (b := true) ⟨o, ho, hcl⟩ isSubtype_stop (wpAny_pure (go h2 fun c o n1 _ n3 n4 g => kept c o n1 n3 n4 g)))
theorem zip_nolen : typeLookup (.type "zip") "__len__" = pure none := by rw [typeLookup_type, builtinLookup_eq_fast]; kernel_rfl
theorem zip_nohint : typeLookup (.type "zip") "__length_hint__" = pure none := by rw [typeLookup_type, builtinLookup_eq_fast]; kernel_rfl
/-- a word about the list S that gathers what the zip gives -/
structure ZP (z TO u v S : Addr) (xs ys : Array Value) (n : Nat) (P : Nat → Array Value → Shared → Prop) : Prop where
  size : ∀ m acc s, P m acc s → acc.size = m
  step : ∀ m acc (s : Shared) h2 x y, m < n → P m acc s → xs[m]? = some x → ys[m]? = some y → IsPair h2 s.heap.objs.size x y → (∀ c o, c ∉ [S, z, TO, u, v] → s.heap.get? c = some o → h2.get? c = some o) → P (m + 1) (acc.push (.ref s.heap.objs.size)) { s with heap := h2 }
theorem zs_loop {R : Result → Shared → Prop} {z TI TO u v p q S : Addr} {n : Nat} {xs ys : Array Value} {res : Value} {P : Nat → Array Value → Shared → Prop} (quiet : A.handled = none) (D : ZipApart z TI TO u v p q) (nS : ∀ c ∈ [z, TI, TO, u, v, p, q], S ≠ c) (hn : n ≤ sizeLine) (hxy : min xs.size ys.size = n) (W : ZP z TO u v S xs ys n P)
    (fin : ∀ acc (s : Shared) h2 c2, P n acc s → (∀ c o, c ∉ [S, z, TO, u, v] → s.heap.get? c = some o → h2.get? c = some o) → h2.get? S = some { cls := .type "list", dict := none, data := .seq acc c2, slots := #[] } → R (.ok (.ret res)) { s with heap := h2 }) :
    ∀ (k m : Nat) (s : Shared) (acc : Array Value) (c : Nat), n - m = k → m ≤ n → ZS z TI TO u v p q xs ys m s.heap → s.heap.get? S = some { cls := .type "list", dict := none, data := .seq acc c, slots := #[] } → P m acc s →
    codeAny (model prog w) A (.builtin "list.extend.loop" ⟨[.ref S, .ref z, res], []⟩) R s := by
  have out : ∀ {b : Addr}, b ∉ [S, z, TO, u, v] → b ≠ S ∧ b ≠ z ∧ b ≠ TO ∧ b ≠ u ∧ b ≠ v := fun {b} nb => by
    simpa only [List.mem_cons, List.not_mem_nil, or_false, not_or] using nb
  intro k
  induction k with
  | zero =>
    intro m s acc c hk hm Z hS hP
    obtain rfl : m = n := by omega
    refine codeAny_builtin F.entry_extend_loop ?_
    rw [Around.under_plainId F.plain_extend_loop _]
    have over : xs[m]? = none ∨ ys[m]? = none := by
      rcases Nat.le_total xs.size ys.size with h | h
      · exact .inl (Array.getElem?_eq_none (by omega))
      · exact .inr (Array.getElem?_eq_none (by omega))
    show wpAny _ A.in1 (pyNext (.ref z) >>= _) _ _ s
    refine wpAny_bind (zs_end (A := A.in1) quiet D Z over fun h2 kept => ?_)
    exact wpAny_pure (fin acc s h2 c hP (fun b o nb e => let ⟨_, n1, n2, n3, n4⟩ := out nb; kept b o n1 n2 n3 n4 e) (kept S _ (nS z (by simp)) (nS TO (by simp)) (nS u (by simp)) (nS v (by simp)) hS))
  | succ k ih =>
    intro m s acc c hk hm Z hS hP
    have lt : m < n := by omega
    have hx : xs[m]? = some xs[m] := Array.getElem?_eq_getElem (by omega)
    have hy : ys[m]? = some ys[m] := Array.getElem?_eq_getElem (by omega)
    refine codeAny_builtin F.entry_extend_loop ?_
    rw [Around.under_plainId F.plain_extend_loop _]
    show wpAny _ A.in1 (pyNext (.ref z) >>= _) _ _ s
    refine wpAny_bind (zs_item (A := A.in1) D Z hx hy fun h2 Z2 pr grow kept => ?_)
    have hS2 := kept S _ (nS z (by simp)) (nS TO (by simp)) (nS u (by simp)) (nS v (by simp)) hS
    show wpAny _ A.in1 (updateSeq S (·.push (.ref s.heap.objs.size)) >>= _) _ _ _
    refine wpAny_bind ?_
    have hsz := W.size m acc s hP
    refine wpAny_updateSeq hS2 rfl (wpAny_pure ⟨plainId_quiet F.plain_extend_loop _, ?_⟩) (by rw [hsz]; omega) (by show (acc.push _).size ≤ sizeLine + 1; rw [Array.size_push]; omega)
    have oth : ∀ b o, b ≠ S → h2.get? b = some o → (h2.update S (Obj.mapSeq (·.push (.ref s.heap.objs.size)))).get? b = some o := fun b o nb e => (Heap.get?_update_other _ _ (Ne.symm nb)).trans e
    refine ih (m + 1) _ (acc.push (.ref s.heap.objs.size)) _ (by omega) lt ?_ (Heap.get?_update_self _ hS2 rfl) (W.step m acc s _ _ _ lt hP hx hy (oth _ _ (Nat.ne_of_gt (Heap.lt_size hS)) pr) fun b o nb e => let ⟨n0, n1, n2, n3, n4⟩ := out nb; oth b o n0 (kept b o n1 n2 n3 n4 e))
    obtain ⟨ti, ⟨a, b, to⟩, ⟨o1, iu, iu'⟩, ⟨o2, iv, iv'⟩, ⟨o3, tp, tp'⟩, ⟨o4, tq, tq'⟩, zs⟩ := Z2
    refine ⟨oth _ _ (nS TI (by simp)).symm ti, ⟨a, b, oth _ _ (nS TO (by simp)).symm to⟩, ⟨o1, oth _ _ (nS u (by simp)).symm iu, iu'⟩, ⟨o2, oth _ _ (nS v (by simp)).symm iv, iv'⟩, ⟨o3, oth _ _ (nS p (by simp)).symm tp, tp'⟩, ⟨o4, oth _ _ (nS q (by simp)).symm tq, tq'⟩, ?_⟩
    rcases zs with zs | ⟨T, f, oT, zs, hT⟩
    · exact .inl (oth _ _ (nS z (by simp)).symm zs)
    · refine .inr ⟨T, f, ?_⟩
      by_cases e : T = S
      · exact ⟨_, oth _ _ (nS z (by simp)).symm zs, by rw [e]; exact Heap.get?_update_self _ hS2 rfl⟩
      · exact ⟨oT, oth _ _ (nS z (by simp)).symm zs, oth _ _ e hT⟩
/-- all that the zip gives, in a list -/
theorem zs_collect {z TI TO u v p q : Addr} {n : Nat} {xs ys : Array Value} {Q : List Value → Shared → Prop} (quiet : A.handled = none) (D : ZipApart z TI TO u v p q) (hn : n ≤ sizeLine) (hxy : min xs.size ys.size = n) (Z : ZS z TI TO u v p q xs ys 0 s.heap) (low : ∀ c ∈ [z, TI, TO, u, v, p, q], c < s.heap.objs.size)
    (P : Nat → Array Value → Shared → Prop) (W : ZP z TO u v s.heap.objs.size xs ys n P) (h0 : ∀ h2 : Heap, (∀ c o, s.heap.get? c = some o → h2.get? c = some o) → (∃ o, h2.get? s.heap.objs.size = some o) → P 0 #[] { s with heap := h2 })
    (fin : ∀ acc (t : Shared) (h2 : Heap), P n acc t → (∀ c o, c ∉ [s.heap.objs.size, z, TO, u, v] → t.heap.get? c = some o → h2.get? c = some o) → Q acc.toList { t with heap := h2 }) : wpAny (model prog w) A (collect (.ref z)) Q E s := by
  have nS : ∀ c ∈ [z, TI, TO, u, v, p, q], s.heap.objs.size ≠ c := fun c m => Nat.ne_of_gt (low c m)
  unfold collect
  refine wpAny_bind (wpAny_runValue (codeAny_builtin F.entry_proto_collect ?_))
  rw [Around.under_plainId F.plain_proto_collect _]
  show wpAny _ A.in1 (newList [] >>= fun fresh => again (.builtin "list.__iadd__" ⟨[fresh, .ref z], []⟩)) _ _ s
  refine wpAny_bind (wpAny_newObj_type (wpAny_pure ⟨plainId_quiet F.plain_list_iadd _, codeAny_builtin F.entry_list_iadd ?_⟩))
  rw [Around.under_plainId F.plain_list_iadd _]
  generalize hL : ({ cls := .type "list", data := .seq ([] : List Value).toArray } : Obj) = L0
  have pushed : ∀ c o, s.heap.get? c = some o → (s.heap.push L0).get? c = some o := fun c o e => Heap.get?_push_of_some _ e
  have zt : ({ s with heap := s.heap.push L0 } : Shared).TypeIs (.ref z) "zip" := by
    rcases Z.zs with e | ⟨_, _, _, e, _⟩
    · exact ⟨_, pushed _ _ e, rfl⟩
    · exact ⟨_, pushed _ _ e, rfl⟩
  show wpAny _ A.in1 (Builtin.List.listExtendWith (.ref s.heap.objs.size) (.ref z) (.ref s.heap.objs.size)) _ _ _
  unfold Builtin.List.listExtendWith
  refine wpAny_bind (wpAny_typeOf zt ?_)
  have differ : Builtin.List.listSameRef (.ref s.heap.objs.size) (.ref z) = false := by simp [Builtin.List.listSameRef, nS z (by simp)]
  have noList : (Value.type "zip" == Value.type "list") = false := by decide
  have noTup : (Value.type "zip" == Value.type "tuple") = false := by decide
  simp only [differ, noList, noTup, Bool.or_false, Bool.false_eq_true, if_false]
  have self : ∀ {K : Value → Shared → Prop}, K (.ref z) { s with heap := s.heap.push L0 } → wpAny (model prog w) A.in1 (pyIter (.ref z)) K E { s with heap := s.heap.push L0 } := fun {K} hK => by
    refine wpAny_pyIter_slot zt F.slot_zip_iter (wpAny_call_entry F.slot_zip_iter zt F.entry_zip_iter ?_ (F.args_zip_iter_1 _))
    show wpAny _ _ (ret (.ref z)) _ _ _
    exact wpAny_pure ⟨_, rfl, "zip", _, zt, F.slot_zip_next.lookup, hK⟩
  refine wpAny_bind (self (wpAny_bind (wpAny_holding ?_)))
  unfold Builtin.List.listLengthHint
  refine wpAny_bind (wpAny_specialOf zt zip_nolen (?_ : wpAny _ A.in1 (specialOf (Value.ref z) (Str.ofString "__length_hint__") >>= _) _ _ _))
  refine wpAny_bind (wpAny_specialOf zt zip_nohint (wpAny_pure ?_))
  show wpAny _ A.in1 (rule "list.extend.makes-room" >>= fun _ => Builtin.List.listTouch (.ref s.heap.objs.size) >>= fun _ => again (.builtin "list.extend.loop" ⟨[.ref s.heap.objs.size, .ref z, .ref s.heap.objs.size], []⟩)) _ _ _
  refine wpAny_bind (wpAny_rule (wpAny_bind ?_))
  have g1 : (s.heap.push L0).get? s.heap.objs.size = some L0 := Heap.get?_push_size _ (by rw [← hL]; rfl)
  subst hL
  show wpAny _ A.in1 (updateSeq s.heap.objs.size (·.push .none) >>= fun _ => updateSeq s.heap.objs.size (·.pop)) _ _ _
  refine wpAny_bind (wpAny_updateSeq g1 rfl ?_)
  have g2 := Heap.get?_update_self (Obj.mapSeq (·.push Value.none)) g1 rfl
  refine wpAny_updateSeq g2 rfl ?_
  have g3 := Heap.get?_update_self (Obj.mapSeq (·.pop)) g2 rfl
  have all : ∀ c o, s.heap.get? c = some o → (((s.heap.push { cls := .type "list", data := .seq ([] : List Value).toArray }).update s.heap.objs.size (Obj.mapSeq (·.push Value.none))).update s.heap.objs.size (Obj.mapSeq (·.pop))).get? c = some o := fun c o e => by
    have ne := Nat.ne_of_gt (Heap.lt_size e)
    exact (Heap.get?_update_other _ _ ne).trans ((Heap.get?_update_other _ _ ne).trans (pushed c o e))
  have Z3 : ZS z TI TO u v p q xs ys 0 (((s.heap.push { cls := .type "list", data := .seq ([] : List Value).toArray }).update s.heap.objs.size (Obj.mapSeq (·.push Value.none))).update s.heap.objs.size (Obj.mapSeq (·.pop))) := by
    obtain ⟨ti, ⟨a, b, to⟩, ⟨o1, iu, iu'⟩, ⟨o2, iv, iv'⟩, ⟨o3, tp, tp'⟩, ⟨o4, tq, tq'⟩, zs⟩ := Z
    exact ⟨all _ _ ti, ⟨a, b, all _ _ to⟩, ⟨o1, all _ _ iu, iu'⟩, ⟨o2, all _ _ iv, iv'⟩, ⟨o3, all _ _ tp, tp'⟩, ⟨o4, all _ _ tq, tq'⟩, zs.imp (all _ _) fun ⟨T, f, oT, e1, e2⟩ => ⟨T, f, oT, all _ _ e1, all _ _ e2⟩⟩
  refine wpAny_pure ⟨plainId_quiet F.plain_extend_loop _, zs_loop quiet D nS hn hxy W (fun acc t h2 c2 hP kept hS2 => ?_) n 0 _ #[] _ rfl (Nat.zero_le _) Z3 g3 (h0 _ all ⟨_, g3⟩)⟩
  show wpAny _ A (load s.heap.objs.size >>= _) _ _ _
  exact wpAny_bind (wpAny_load hS2 (wpAny_pure (fin acc t h2 hP kept)))
theorem zs_tuple {z TI TO u v p q : Addr} {n : Nat} {xs ys : Array Value} {Q : Value → Shared → Prop} (quiet : A.handled = none) (D : ZipApart z TI TO u v p q) (hn : n ≤ sizeLine) (hxy : min xs.size ys.size = n) (Z : ZS z TI TO u v p q xs ys 0 s.heap) (low : ∀ c ∈ [z, TI, TO, u, v, p, q], c < s.heap.objs.size)
    (P : Nat → Array Value → Shared → Prop) (W : ZP z TO u v s.heap.objs.size xs ys n P) (h0 : ∀ h2 : Heap, (∀ c o, s.heap.get? c = some o → h2.get? c = some o) → (∃ o, h2.get? s.heap.objs.size = some o) → P 0 #[] { s with heap := h2 })
    (fin : ∀ acc (t : Shared) (h2 : Heap), P n acc t → (∀ c o, c ∉ [s.heap.objs.size, z, TO, u, v] → t.heap.get? c = some o → h2.get? c = some o) → Q (.ref h2.objs.size) { t with heap := h2.push { cls := .type "tuple", data := .seq acc } }) : wpAny (model prog w) A (call (.type "tuple") [.ref z]) Q E s := by
  refine callType_codes (Q₁ := fun made t => t.TypeIs made "tuple" ∧ Q made t) F.called_tuple (F.typeCall_tuple_1 _) F.entry_object_init (codeAny_of_tree ?_) fun made t ht => ⟨ht.1, F.args_object_init_2 made _, object_init_meets F.called_tuple.init.lookup F.called_tuple.made (by decide) prog w A.in1 _ t ⟨ht.1, rfl, ht.2⟩⟩
  show wpAny _ A.in1.in1 (do checkBuiltinCall "tuple.__new__" ⟨[.type "tuple", .ref z], []⟩; again (.builtin "tuple.__new__" ⟨[.type "tuple", .ref z], []⟩)) _ _ s
  refine wpAny_bind (wpAny_of_eq (F.newCall_tuple_1 _) (wpAny_pure ⟨plainId_quiet F.plain_tuple_new _, codeAny_builtin F.entry_tuple_new ?_⟩))
  rw [Around.under_plainId F.plain_tuple_new _]
  have t1 := sub_tuple_self
  have t2 := init_tuple_lookup
  have t3 := madeHere_tuple
  have zt : s.TypeIs (.ref z) "zip" := by
    rcases Z.zs with e | ⟨_, _, _, e, _⟩
    · exact ⟨_, e, rfl⟩
    · exact ⟨_, e, rfl⟩
  have quiet2 : A.in1.in1.handled = none := quiet
  wp_walk using wpAny_typeOf zt, zs_collect (A := A.in1.in1) quiet2 D hn hxy Z low P W h0
  intro acc t h2 hP kept
  show wpAny _ _ (Builtin.Tuple.tupleExact acc.toList.toArray >>= fun r => ret r) _ _ _
  unfold Builtin.Tuple.tupleExact
  have hsz := W.size n acc t hP
  refine wpAny_bind (wpAny_newObj_type ?_ (by show acc.toList.toArray.size ≤ sizeLine; simp only [Array.toArray_toList]; omega))
  refine wpAny_pure ?_
  rw [show acc.toList.toArray = acc by simp]
  exact ⟨⟨_, Heap.get?_push_size _ rfl, rfl⟩, fin acc t h2 hP kept⟩
end
/-! ### the rule -/
def PairsOf (H : Hp) : List V → List (V × V) → Prop
  | [], [] => True
  | v :: vs, z :: zs => (∃ q, v = .ref q ∧ H q = some (.tup [z.1, z.2])) ∧ PairsOf H vs zs
  | _, _ => False
theorem PairsOf.mono {H H' : Hp} (e : Same H H') : ∀ {vs : List V} {zs : List (V × V)}, PairsOf H vs zs → PairsOf H' vs zs
  | [], [], _ => trivial
  | _ :: _, _ :: _, ⟨⟨q, h1, h2⟩, r⟩ => ⟨⟨q, h1, e _ _ h2⟩, PairsOf.mono e r⟩
  | [], _ :: _, h => h.elim
  | _ :: _, [], h => h.elim
theorem PairsOf.snoc {H : Hp} {q : Addr} {a b : V} (hq : H q = some (.tup [a, b])) : ∀ {vs : List V} {zs : List (V × V)}, PairsOf H vs zs → PairsOf H (vs ++ [.ref q]) (zs ++ [(a, b)])
  | [], [], _ => ⟨⟨q, rfl, hq⟩, trivial⟩
  | _ :: _, _ :: _, ⟨h, r⟩ => ⟨h, PairsOf.snoc hq r⟩
  | [], _ :: _, h => h.elim
  | _ :: _, [], h => h.elim
def tTupZip (K : PySem.W.Frag) (ta : TA) : TE := fun σ H Q => ta σ H fun vs H1 => ∃ a b xs ys, vs = [.ref a, .ref b] ∧ SqT K H1 a xs ∧ SqT K H1 b ys ∧ xs.length ≤ 100000 ∧
  ∀ H2 p ws, Same H1 H2 → H2 p = some (.tup ws) → PairsOf H2 ws (xs.zip ys) → Q (.ref p) H2
section
variable {X : Cx}
theorem zp_pairs {pn : List (Addr × Obj)} {σ : L2.St} {H1 : Hp} {z TO u v S : Addr} {xs ys : List V} {its its2 : List Value} {n : Nat} (rx : Vals xs its) (ry : Vals ys its2) :
    ZP z TO u v S its.toArray its2.toArray n fun m acc t => acc.size = m ∧ ∃ H' ws, Inv X pn σ H' t ∧ Same H1 H' ∧ Vals ws acc.toList ∧ PairsOf H' ws ((xs.zip ys).take m) ∧ ∀ c ∈ [S, z, TO, u, v], FpOk X pn H' c ∧ c < t.heap.objs.size where
  size := fun m acc t h => h.1
  step := by
    rintro m acc s h2 x y lt ⟨hsz, H', ws, I, e, vs, po, off⟩ hx hy pr kept
    refine ⟨by rw [Array.size_push, hsz], ?_⟩
    have hx' : its[m]? = some x := by simpa using hx
    have hy' : its2[m]? = some y := by simpa using hy
    obtain ⟨xv, ex, rxv⟩ : ∃ xv, xs[m]? = some xv ∧ RelV xv x := by
      have hl : m < xs.length := by
        rw [rx.length]
        exact (List.getElem?_eq_some_iff.mp hx').1
      obtain ⟨u', h1, h2⟩ := rx.get (List.getElem?_eq_getElem hl)
      rw [hx'] at h1
      cases h1
      exact ⟨_, List.getElem?_eq_getElem hl, h2⟩
    obtain ⟨yv, ey, ryv⟩ : ∃ yv, ys[m]? = some yv ∧ RelV yv y := by
      have hl : m < ys.length := by
        rw [ry.length]
        exact (List.getElem?_eq_some_iff.mp hy').1
      obtain ⟨u', h1, h2⟩ := ry.get (List.getElem?_eq_getElem hl)
      rw [hy'] at h1
      cases h1
      exact ⟨_, List.getElem?_eq_getElem hl, h2⟩
    have new : ObjOk X.prog X.w (upd H' s.heap.objs.size (.tup [xv, yv])) h2 s.heap.objs.size (.tup [xv, yv]) := ⟨by show 2 ≤ sizeLine; decide, [x, y], .cons rxv (.cons ryv .nil), ⟨_, pr, rfl, _, rfl⟩⟩
    have hn : H' s.heap.objs.size = none := I.hok.fresh (Nat.le_refl _)
    have e2 : Same H' (upd H' s.heap.objs.size (.tup [xv, yv])) := same_new hn
    refine ⟨_, ws ++ [.ref s.heap.objs.size], I.turnedNew (t' := s.toks) (ch := [S, z, TO, u, v]) kept (fun c hc => (off c hc).1) (Nat.le_refl _) new, e.trans e2, ?_, ?_, fun c hc => ?_⟩
    · rw [Array.toList_push]
      exact vs.append (.cons rfl .nil)
    · have hz : (xs.zip ys)[m]? = some (xv, yv) := by
        rw [List.getElem?_zip_eq_some]
        exact ⟨ex, ey⟩
      rw [List.take_succ, hz]
      exact (po.mono e2).snoc upd_same
    · obtain ⟨⟨f1, f2⟩, f3⟩ := off c hc
      refine ⟨⟨?_, f2⟩, Nat.lt_trans f3 (Heap.lt_size pr)⟩
      rw [upd_ne (Nat.ne_of_lt f3)]
      exact f1
theorem pe_tupZip {e e2 : Expr} {ta : TA} {p p2 pos pos2 : Pos} (hc : X.calm = true) (hg : Gl X "tuple") (hm : X.mg "tuple" = none) (hg2 : Gl X "zip") (hm2 : X.mg "zip" = none) (ha : PA X [e, e2] ta)
    (hs : starEach [e, e2] X.env = (false, eval e X.env) :: starEach [e2] X.env := by rfl) (hpl : (backTo pos2 (starEach [e2] X.env)).any (·.1) = false := by rfl)
    (hs2 : starEach [.Call (.Name "zip" p2) [e, e2] [] pos2] X.env = (false, eval (.Call (.Name "zip" p2) [e, e2] [] pos2) X.env) :: starEach [] X.env := by rfl) :
    PE X (.Call (.Name "tuple" p) [.Call (.Name "zip" p2) [e, e2] [] pos2] [] pos) (tTupZip X.K ta) := by
  constructor
  intro pn s0 σ H Q I h
  refine Call_ (ld_blt I hg hm boot_tuple (PyProof.Rows.callWith_type1 (args_cons (?_ : wpAny _ _ (eval (.Call (.Name "zip" p2) [e, e2] [] pos2) X.env) _ _ _) hs2) hs2))
  refine Call_ (ld_blt I hg2 hm2 PyProof.Rows.boot_zip (PyProof.Rows.callWith_type1 (thn (ha.run pos2 pn s0 σ H _ I h) fun us s1 ⟨vs, H1, I1, r1, w1⟩ => ?_) hs hpl))
  obtain ⟨a, b, xs, ys, rfl, qx, qy, few, go⟩ := w1
  cases r1 with
  | cons ra rr =>
    cases rr with
    | cons rb rr =>
      cases rr
      cases ra
      cases rb
      obtain ⟨its, rx, px, lx⟩ := I1.tuple qx
      obtain ⟨its2, ry, py, ly⟩ := I1.tuple qy
      obtain ⟨o1, ho1, _⟩ := id px
      obtain ⟨o2, ho2, _⟩ := id py
      have la := Heap.lt_size ho1
      have lb := Heap.lt_size ho2
      refine RZ.call_zipT (show s1.heap.IsTuple a its.toArray from px) (show s1.heap.IsTuple b its2.toArray from py) fun h' hz hTI hTO h1 h2 hsz hk => args_nil ?_
      have I2 : Inv X pn σ H1 { s1 with heap := h' } := I1.kept (t' := s1.toks) hk
      have D := PySem.W.ktu_apart s1.heap.objs.size a b la lb
      have keepT : ∀ {c : Addr} {its : Array Value}, IsTup s1.heap c its → h'.IsTuple c its := fun {c its} ⟨o, ho, r⟩ => ⟨o, hk _ _ ho, r⟩
      have Z : ZS (s1.heap.objs.size + 4) (s1.heap.objs.size + 2) (s1.heap.objs.size + 3) s1.heap.objs.size (s1.heap.objs.size + 1) a b its.toArray its2.toArray 0 h' := ⟨hTI, ⟨_, _, hTO⟩, h1, h2, keepT px, keepT py, .inl hz⟩
      have wide : ∀ k, k < 5 → s1.heap.objs.size + k < h'.objs.size := fun k lt => by
        rw [hsz]
        exact Nat.add_lt_add_left lt _
      have up5 : ∀ k, s1.heap.objs.size ≤ s1.heap.objs.size + k := fun k => Nat.le_add_right _ _
      have offk : ∀ k, FpOk X pn H1 (s1.heap.objs.size + k) := fun k => I1.fpOk (up5 k) (I1.hok.fresh (up5 k))
      have lenx : its.length = xs.length := rx.length.symm
      refine zs_tuple (A := X.A) (s := { s1 with heap := h' }) (n := min its.toArray.size its2.toArray.size) (I1.ok.hd hc) D (Nat.le_trans (Nat.min_le_left _ _) (by rw [List.size_toArray, lenx]; exact lx)) rfl Z (fun c hc => ?_) _ (zp_pairs (X := X) (pn := pn) (σ := σ) (H1 := H1) rx ry) (fun h2 k2 ⟨oS, eS⟩ => ⟨rfl, H1, [], I2.kept (t' := s1.toks) k2, Same.refl _, .nil, by rw [List.take_zero]; trivial, fun c hc => ?_⟩) fun acc t h3 ⟨sz3, H', ws, I3, e3, vs3, po3, off3⟩ k3 => ?_
      · simp only [List.mem_cons, List.not_mem_nil, or_false] at hc
        show c < h'.objs.size
        rcases hc with rfl | rfl | rfl | rfl | rfl | rfl | rfl
        · exact wide 4 (by decide)
        · exact wide 2 (by decide)
        · exact wide 3 (by decide)
        · exact wide 0 (by decide)
        · exact wide 1 (by decide)
        · exact Nat.lt_trans la (wide 0 (by decide))
        · exact Nat.lt_trans lb (wide 0 (by decide))
      · have big : s1.heap.objs.size + 5 ≤ h2.objs.size := by
          have z4 := Heap.lt_size (k2 _ _ hz)
          exact z4
        simp only [List.mem_cons, List.not_mem_nil, or_false] at hc
        rcases hc with rfl | rfl | rfl | rfl | rfl
        · exact ⟨I2.fpOk (Nat.le_refl _) (I2.hok.fresh (Nat.le_refl _)), Heap.lt_size eS⟩
        · exact ⟨offk 4, Nat.lt_of_lt_of_le (Nat.add_lt_add_left (by decide) _) big⟩
        · exact ⟨offk 3, Nat.lt_of_lt_of_le (Nat.add_lt_add_left (by decide) _) big⟩
        · exact ⟨offk 0, Nat.lt_of_lt_of_le (Nat.lt_add_of_pos_right (by decide)) big⟩
        · exact ⟨offk 1, Nat.lt_of_lt_of_le (Nat.add_lt_add_left (by decide) _) big⟩
      · have I4 : Inv X pn σ H' { t with heap := h3 } := I3.turnedL (t' := t.toks) k3 fun c hc => (off3 c hc).1
        have whole : (xs.zip ys).take (min its.toArray.size its2.toArray.size) = xs.zip ys := List.take_of_length_le (by rw [List.length_zip, List.size_toArray, List.size_toArray, rx.length, ry.length]; exact Nat.le_refl _)
        rw [whole] at po3
        have hn : H' h3.objs.size = none := I4.hok.fresh (Nat.le_refl _)
        have e4 : Same H' (upd H' h3.objs.size (.tup ws)) := same_new hn
        have lw : ws.length ≤ sizeLine := by
          rw [vs3.length, Array.length_toList, sz3, List.size_toArray, List.size_toArray, lenx]
          exact Nat.le_trans (Nat.min_le_left _ _) lx
        refine ⟨.ref h3.objs.size, upd H' h3.objs.size (.tup ws), I4.laid (t' := t.toks) (fun c o e => Heap.get?_push_of_some _ e) (Nat.le_refl _) (show ObjOk X.prog X.w _ _ _ (.tup ws) from ⟨lw, acc.toList, vs3, ?_⟩), rfl, go _ _ ws (e3.trans e4) upd_same (po3.mono e4)⟩
        rw [Array.toArray_toList]
        exact IsTup.new _ _
end
end Sx
set_option Elab.async false
set_option linter.all false
set_option maxRecDepth 100000
set_option maxHeartbeats 1000000
/-! Sets of tuples of texts: the search. -/
namespace Sx
open PySem PySem.Spec PyProof.Rows L2 PySem.W
/-! ### plain facts of the table -/
/-- the c-th step of a hash's way -/
abbrev stp (t : SetTable) (h : Int) (c : Nat) : SetTable.Probe := nth t.mask (runAt t.mask (SetTable.bits h % (t.mask + 1)) (SetTable.bits h)) c
theorem nth_nodummy (m : Nat) : ∀ (n : Nat) (p : SetTable.Probe), p.dummy = none → (nth m p n).dummy = none
  | 0, _, e => e
  | n + 1, p, e => nth_nodummy m n (adv m p) (by
    unfold adv
    split <;> exact e)
theorem probe_from {t : SetTable} {hs : List Int} (T : TabOk t hs) (look : Nat → Int) {h : Int} {K c : Nat} (hc : c ≤ K) (hK : K < 10 * SetTable.turns t.mask) (free : way t.mask h K ∉ t.place.toList) (full : ∀ k, k < K → way t.mask h k ∈ t.place.toList) :
    (∃ q i, c + q < K ∧ t.place.toList[i]? = some (way t.mask h (c + q)) ∧ look i = h ∧ (∀ q' i', q' < q → t.place.toList[i']? = some (way t.mask h (c + q')) → look i' ≠ h) ∧ t.probe look h (stp t h c) = some (.candidate (way t.mask h (c + q)) i (stp t h (c + q + 1)))) ∨
    ((∀ q' i', c + q' < K → t.place.toList[i']? = some (way t.mask h (c + q')) → look i' ≠ h) ∧ t.probe look h (stp t h c) = some (.empty (way t.mask h K) none)) := by
  have go : ∀ q, nth t.mask (stp t h c) q = stp t h (c + q) := fun q => (nth_add t.mask c _ q).symm
  have at_ : ∀ q, (nth t.mask (stp t h c) q).j = way t.mask h (c + q) := fun q => congrArg SetTable.Probe.j (go q)
  have end_ : c + (K - c) = K := by omega
  rcases go_spec t T.ris T.dm look h (10 * SetTable.turns t.mask) (K - c) (stp t h c) (nth_nodummy _ _ _ rfl) (by omega) (fun q hq => by rw [at_]; exact full _ (by omega)) (by rw [at_, end_]; exact free) with ⟨q, i, hq, e1, e2, e3, e4⟩ | ⟨e3, e4⟩
  · rw [at_] at e1
    refine .inl ⟨q, i, by omega, e1, e2, fun q' i' lt e => e3 q' i' lt (by rw [at_]; exact e), ?_⟩
    rw [at_, go] at e4
    exact e4
  · rw [at_, end_] at e4
    exact .inr ⟨fun q' i' lt e => e3 q' i' (by omega) (by rw [at_]; exact e), e4⟩
/-! ### keys -/
abbrev Row := Addr × List L2.Key
section
variable {P : Program} {w : World} {A : Around} {E : Value → Shared → Prop} {s : Shared}
abbrev IsK (P : Program) (w : World) (h : Heap) (k : List L2.Key) (a : Addr) : Prop := IsTupleKey (mixKind P w) h k a
abbrev tkh (P : Program) (w : World) (k : List L2.Key) : Int := tupleKeyHash (mixKind P w) k
/-- a value that is carried as it is -/
def Flat (v : Value) : Prop := (∃ i t, v = .int i t) ∨ ∃ x t, v = .str x t
theorem flats {k : List L2.Key} {vs : List Value} (h : ItemsAre (mixKind P w) k vs) : ∀ v ∈ vs, Flat v := by
  induction h with
  | nil => exact fun v m => by cases m
  | cons h1 _ ih => exact fun v m => (List.mem_cons.mp m).elim (fun e => by
      rcases keyIs_shape h1 with ⟨i, t, _, e1⟩ | ⟨x, t, _, e1⟩
      · exact .inl ⟨i, t, e.trans e1⟩
      · exact .inr ⟨x, t, e.trans e1⟩) (ih v)
theorem flat_stmt (n : Nat) {v : Value} (f : Flat v) : ofAClassStatement n v = pure false := by
  rcases f with ⟨i, t, rfl⟩ | ⟨x, t, rfl⟩ <;> cases n <;> rfl
theorem flat_hash (n : Nat) {v : Value} (f : Flat v) : ∃ b, hashByValue n v = pure b := by
  rcases f with ⟨i, t, rfl⟩ | ⟨x, t, rfl⟩
  · exact ⟨true, by cases n <;> rfl⟩
  · exact ⟨false, by cases n <;> simp [hashByValue]⟩
theorem key_stmt {k : List L2.Key} {b : Addr} {Q : Bool → Shared → Prop} (hk : IsK P w s.heap k b) (q : Q false s) : wpAny (model P w) A (ofAClassStatement 8 (.ref b)) Q E s := by
  have ty := hk.typeIs
  obtain ⟨o, its, _, ho, _, hd, hi⟩ := hk
  have fl := flats hi
  unfold ofAClassStatement
  refine wpAny_bind (wpAny_typeOf ty ?_)
  simp only [show (("tuple" : String) == "tuple") = true by decide, if_true, Bool.not_true, Bool.false_eq_true, if_false]
  try refine wpAny_bind (wpAny_pure ?_)
  try simp only [Bool.not_true, Bool.false_eq_true, if_false]
  show wpAny _ _ (seqItems? (.ref b) >>= _) _ _ s
  refine wpAny_bind (wpAny_seqItems ho hd (wpAny_bind ?_))
  show wpAny _ _ (forIn its _ _) _ _ s
  rw [← Array.forIn_toList]
  refine wpAny_forIn_list _ (fun left r s' => r.1 = none ∧ s' = s ∧ ∀ v ∈ left, Flat v) _ (fun v left r s' ⟨e1, e2, f⟩ => ?_) (fun r s' ⟨e1, e2, _⟩ => ?_) _ _ ⟨rfl, rfl, fl⟩
  · rw [flat_stmt _ (f v List.mem_cons_self)]
    refine wpAny_bind (wpAny_pure ?_)
    simp only [Bool.false_eq_true, if_false]
    exact wpAny_pure ⟨rfl, e2, fun u m => f u (List.mem_cons_of_mem _ m)⟩
  · obtain ⟨r1, r2⟩ := r
    dsimp only at e1
    subst e1 e2
    exact wpAny_pure q
theorem key_hash {k : List L2.Key} {b : Addr} {Q : Bool → Shared → Prop} (hk : IsK P w s.heap k b) (q : ∀ c, Q c s) : wpAny (model P w) A (hashByValue 8 (.ref b)) Q E s := by
  have ty := hk.typeIs
  obtain ⟨o, its, _, ho, _, hd, hi⟩ := hk
  have fl := flats hi
  unfold hashByValue
  refine wpAny_bind (wpAny_specialOf ty F.slot_tuple_hash.lookup (?_ : wpAny _ _ (seqItems? (.ref b) >>= _) _ _ s))
  refine wpAny_bind (wpAny_seqItems ho hd (wpAny_bind ?_))
  show wpAny _ _ (forIn its _ _) _ _ s
  rw [← Array.forIn_toList]
  refine wpAny_forIn_list _ (fun left r s' => r.1 = none ∧ s' = s ∧ ∀ v ∈ left, Flat v) _ (fun v left r s' ⟨e1, e2, f⟩ => ?_) (fun r s' ⟨e1, e2, _⟩ => ?_) _ _ ⟨rfl, rfl, fl⟩
  · obtain ⟨c, hc⟩ := flat_hash 7 (f v List.mem_cons_self)
    rw [hc]
    refine wpAny_bind (wpAny_pure ?_)
    subst e2
    cases c with
    | true =>
      simp only [Bool.not_true, Bool.false_eq_true, if_false]
      exact wpAny_pure ⟨rfl, rfl, fun u m => f u (List.mem_cons_of_mem _ m)⟩
    | false =>
      simp only [Bool.not_false, if_true]
      exact wpAny_pure (wpAny_pure (q false))
  · obtain ⟨r1, r2⟩ := r
    dsimp only at e1
    subst e1 e2
    exact wpAny_pure (q true)
theorem key_seen {k : List L2.Key} {b : Addr} {Q : Bool → Shared → Prop} (hk : IsK P w s.heap k b) {ys : List Value} (hy : ∀ y ∈ ys, ∃ j c, y = Value.ref c ∧ IsK P w s.heap j c) (q : Q false s) : wpAny (model P w) A (searchCouldBeSeen (.ref b) ys) Q E s := by
  unfold searchCouldBeSeen
  refine wpAny_bind (wpAny_forIn_list _ (fun left r s' => r.1 = none ∧ s' = s ∧ ∀ y ∈ left, ∃ j c, y = Value.ref c ∧ IsK P w s.heap j c) _ (fun v left r s' ⟨e1, e2, f⟩ => ?_) (fun r s' ⟨e1, e2, _⟩ => ?_) _ _ ⟨rfl, rfl, hy⟩)
  · subst e2
    obtain ⟨j, c, rfl, hc⟩ := f v List.mem_cons_self
    have f2 : ∀ y ∈ left, ∃ j c, y = Value.ref c ∧ IsK P w s'.heap j c := fun u m => f u (List.mem_cons_of_mem _ m)
    dsimp only
    by_cases same : (b == c || (carriedByValue (.ref b) && carriedByValue (.ref c))) = true
    · exact wp_if_pos same (wpAny_pure ⟨rfl, rfl, f2⟩)
    · refine wp_if_neg same (wpAny_bind (wpAny_eqIsQuiet_tuple hk ?_))
      simp only [Bool.not_true, Bool.false_eq_true, if_false]
      refine wpAny_bind (wpAny_eqIsQuiet_tuple hc ?_)
      simp only [Bool.not_true, Bool.false_eq_true, if_false]
      refine wpAny_bind (key_stmt hk ?_)
      simp only [Bool.false_eq_true, if_false]
      refine wpAny_bind (key_stmt hc ?_)
      simp only [Bool.false_eq_true, if_false]
      exact wpAny_pure ⟨rfl, rfl, f2⟩
  · obtain ⟨r1, r2⟩ := r
    dsimp only at e1
    subst e1 e2
    exact wpAny_pure q
/-! ### the set -/
abbrev rws (P : Program) (w : World) (L : List Row) : List (Int × Value) := L.map fun r => (tkh P w r.2, Value.ref r.1)
structure SetK (P : Program) (w : World) (h : Heap) (a : Addr) (L : List Row) (es : Array (Int × Value)) (t : SetTable) : Prop where
  obj : ∃ o ep, h.get? a = some o ∧ o.ExactSet ∧ o.data = .set es ep t
  row : es.toList = rws P w L
  tab : TabOk t (L.map fun r => tkh P w r.2)
  uni : (L.map (·.2)).Nodup
  key : ∀ r ∈ L, IsK P w h r.2 r.1
  led : w.params.followText "set-order" = true ∨ t.led = true
  gap : L.length * 5 < t.mask * 3
  few : L.length < 64
section
variable {a : Addr} {L : List Row} {es : Array (Int × Value)} {t : SetTable}
theorem SetK.len (R : SetK P w s.heap a L es t) : es.size = L.length := by
  rw [← Array.length_toList, R.row, List.length_map]
theorem SetK.plc (R : SetK P w s.heap a L es t) : t.place.toList.length = L.length := by
  have := R.tab.sz
  rw [List.length_map] at this
  rw [Array.length_toList]
  exact this
theorem fit_of {hs : List Int} {n : Nat} (T : TabOk t hs) (hn : n = hs.length) (hm : n ≤ t.mask) : t.fits n = true := by
  have h1 := T.sz
  unfold SetTable.fits SetTable.fill
  rw [T.dm, Bool.and_eq_true, beq_iff_eq, decide_eq_true_eq]
  show t.place.size = n ∧ t.place.size + 0 ≤ t.mask
  omega
theorem SetK.fit (R : SetK P w s.heap a L es t) : t.fits es.size = true := fit_of R.tab (by rw [R.len, List.length_map]) (by
  have := R.gap
  rw [R.len]
  omega)
theorem SetK.ent (R : SetK P w s.heap a L es t) {i : Nat} {r : Row} (h : L[i]? = some r) : es[i]? = some (tkh P w r.2, Value.ref r.1) := by
  rw [← Array.getElem?_toList, R.row, List.getElem?_map, h]
  rfl
theorem odd_gw {hs : List Int} (T : TabOk t hs) : ¬ t.gaveWay = true := by
  unfold SetTable.gaveWay
  rw [mask_odd T.mok]
  exact Bool.false_ne_true
/-- from the c-th step on -/
theorem seek (R : SetK P w s.heap a L es t) {x : Addr} {k : List L2.Key} (hx : IsK P w s.heap k x) (hu : A.units < cLine) {K : Nat} (hK : K < 10 * SetTable.turns t.mask) (free : way t.mask (tkh P w k) K ∉ t.place.toList)
    (full : ∀ c, c < K → way t.mask (tkh P w k) c ∈ t.place.toList) {Q : SetFound → Shared → Prop} (old : k ∈ L.map (·.2) → Q (.there none) s) (new : k ∉ L.map (·.2) → Q (.free (way t.mask (tkh P w k) K) false) s) :
    ∀ (f c : Nat) (stand : Option SetTable.Probe), stand.getD (t.probeStart (tkh P w k)) = stp t (tkh P w k) c → c ≤ K → K - c < f → (∀ (i : Nat) r, L[i]? = some r → r.2 = k → ∃ d, c ≤ d ∧ d < K ∧ t.place.toList[i]? = some (way t.mask (tkh P w k) d)) →
      wpAny (model P w) A (setSearchFrom a (.ref x) (tkh P w k) true f stand) Q E s := by
  obtain ⟨o, ep, ho, hex, hd⟩ := R.obj
  have state : ∀ {B : Around} {Z : Array (Int × Value) × Nat × SetTable → Shared → Prop}, Z (es, ep, t) s → wpAny (model P w) B (setState a) Z E s := fun hz => wpAny_setState_of ho hd R.fit hz
  intro f
  induction f with
  | zero => exact fun c stand _ _ lt _ => absurd lt (Nat.not_lt_zero _)
  | succ f ih =>
    intro c stand hst hc lt left
    rw [setSearchFrom_succ]
    refine wpAny_bind (state ?_)
    dsimp only
    refine wp_if_neg (odd_gw R.tab) ?_
    try refine wpAny_bind (wpAny_pure ?_)
    have look : ∀ (i : Nat) r, L[i]? = some r → (fun i => (es[i]?.map (·.1)).getD 0) i = tkh P w r.2 := fun i r e => by
      dsimp only
      rw [R.ent e]
      rfl
    rw [hst]
    rcases probe_from R.tab (fun i => (es[i]?.map (·.1)).getD 0) hc hK free full with ⟨q, i, hq, pl, hl, before, ans⟩ | ⟨before, ans⟩
    · rw [ans]
      dsimp only
      have il : i < L.length := by
        rw [← R.plc]
        exact (List.getElem?_eq_some_iff.mp pl).1
      obtain ⟨r, hr⟩ : ∃ r, L[i]? = some r := ⟨_, List.getElem?_eq_getElem il⟩
      have rL := List.mem_of_getElem? hr
      have more : wpAny (model P w) A (searchRest a (.ref x) (tkh P w k) true f es t (way t.mask (tkh P w k) (c + q)) i (stp t (tkh P w k) (c + q + 1))) Q E s := by
        unfold searchRest
        rw [R.ent hr]
        dsimp only
        refine wpAny_bind (wpAny_holding (wpAny_eqBool_tuple hu (R.key r rL) hx (wpAny_bind (state ?_))))
        dsimp only
        by_cases same : r.2 = k
        · exact wp_if_pos (by rw [decide_eq_true same]; rfl) (wpAny_pure (old (List.mem_map.mpr ⟨r, rL, same⟩)))
        · refine wp_if_neg (by rw [decide_eq_false same]; exact Bool.false_ne_true) ?_
          try refine wpAny_bind (wpAny_pure ?_)
          rw [sameMem]
          dsimp only
          have live := slot_live R.tab.ris pl
          simp only [if_true, live, R.ent hr]
          refine wpAny_bind (wpAny_isSame_ref_self (wpAny_bind (wpAny_pure ?_)))
          simp only [if_true]
          refine wp_if_neg (by rw [decide_eq_false same]; exact Bool.false_ne_true) (ih (c + q + 1) _ rfl (by omega) (by omega) fun i0 r0 h0 k0 => ?_)
          obtain ⟨d, d1, d2, d3⟩ := left i0 r0 h0 k0
          refine ⟨d, ?_, d2, d3⟩
          rcases Nat.lt_trichotomy d (c + q) with z | z | z
          · have e : c + (d - c) = d := by omega
            exact absurd ((look i0 r0 h0).trans (by rw [k0])) (before (d - c) i0 (by omega) (by rw [e]; exact d3))
          · rw [z] at d3
            have two := slot_live R.tab.ris d3
            rw [live] at two
            injection two with two
            rw [← two, hr] at h0
            cases h0
            exact absurd k0 same
          · exact z
      by_cases led : t.led = true
      · refine wp_if_neg (by rw [led]; exact Bool.false_ne_true) ?_
        try refine wpAny_bind (wpAny_pure ?_)
        exact more
      · refine wp_if_pos (by simp [led]) (wpAny_bind (key_seen hx (fun y hy => ?_) (wp_if_neg Bool.false_ne_true ?_)))
        · obtain ⟨e, he, ee⟩ := List.mem_map.mp hy
          have m : e ∈ es.toList := by
            have : e ∈ es ∧ e.1 = tkh P w k := by simpa using he
            simpa using this.1
          rw [R.row] at m
          obtain ⟨r2, h2, e2⟩ := List.mem_map.mp m
          exact ⟨r2.2, r2.1, by rw [← ee, ← e2], R.key r2 h2⟩
        · try refine wpAny_bind (wpAny_pure ?_)
          exact more
    · rw [ans]
      dsimp only
      refine wpAny_pure (new fun m => ?_)
      obtain ⟨r0, h0, k0⟩ := List.mem_map.mp m
      obtain ⟨i0, hi0⟩ := List.getElem?_of_mem h0
      obtain ⟨d, d1, d2, d3⟩ := left i0 r0 hi0 k0
      have e : c + (d - c) = d := by omega
      exact before (d - c) i0 (by omega) (by rw [e]; exact d3) ((look i0 r0 hi0).trans (by rw [k0]))
theorem seek0 (R : SetK P w s.heap a L es t) {x : Addr} {k : List L2.Key} (hx : IsK P w s.heap k x) (hu : A.units < cLine) {Q : SetFound → Shared → Prop} (old : k ∈ L.map (·.2) → Q (.there none) s)
    (new : ∀ K, k ∉ L.map (·.2) → way t.mask (tkh P w k) K ∉ t.place.toList → (∀ c, c < K → way t.mask (tkh P w k) c ∈ t.place.toList) → Q (.free (way t.mask (tkh P w k) K) false) s) : wpAny (model P w) A (setSearch a (.ref x) (tkh P w k) true) Q E s := by
  have gap := R.gap
  obtain ⟨K, hK, free, full⟩ := R.tab.first (by rw [List.length_map]; omega) (tkh P w k)
  have small : K < 100000 := by
    refine Nat.lt_of_lt_of_le hK ?_
    unfold SetTable.turns
    rcases R.tab.mok with e | e | e <;> rw [e] <;> decide
  unfold setSearch
  refine seek R hx hu hK free full old (fun n => new K n free full) 100000 0 none rfl (Nat.zero_le _) (by omega) fun i r hr hk => ?_
  obtain ⟨j, hj⟩ : ∃ j, t.place.toList[i]? = some j := ⟨_, List.getElem?_eq_getElem (by rw [R.plc]; exact (List.getElem?_eq_some_iff.mp hr).1)⟩
  obtain ⟨d, d1, d2⟩ := R.tab.before (h := tkh P w k) free (by rw [List.getElem?_map, hr, ← hk]; rfl) hj
  exact ⟨d, Nat.zero_le _, d1, by rw [hj, d2]⟩
end
end
end Sx
set_option Elab.async false
set_option linter.all false
set_option maxRecDepth 100000
set_option maxHeartbeats 1000000
/-! Sets of tuples of texts: adding. -/
namespace Sx
open PySem PySem.Spec PyProof.Rows L2 PySem.W
section
variable {P : Program} {w : World} {A : Around} {E : Value → Shared → Prop} {s : Shared} {a : Addr} {L : List Row} {es : Array (Int × Value)} {t : SetTable}
theorem IsK.other {h h2 : Heap} {k : List L2.Key} {b : Addr} {o : Obj} {ep : Nat} (hk : IsK P w h k b) (ho : h.get? a = some o) (hd : o.data = .set es ep t) (sb : Heap.SameBut a h h2) : IsK P w h2 k b := by
  obtain ⟨o2, its, n, h1, r1, h3, r2⟩ := hk
  refine ⟨o2, its, n, (sb.2 b fun e => ?_).trans h1, r1, h3, r2⟩
  rw [e, ho] at h1
  cases h1
  rw [hd] at h3
  cases h3
theorem IsK.kept {h h2 : Heap} {k : List L2.Key} {b : Addr} (hk : IsK P w h k b) (e : ∀ c o, h.get? c = some o → h2.get? c = some o) : IsK P w h2 k b := by
  obtain ⟨o2, its, n, h1, r⟩ := hk
  exact ⟨o2, its, n, e _ _ h1, r⟩
/-- the rows in another order -/
theorem rows_by (es : Array (Int × Value)) (he : es.toList = rws P w L) : ∀ l : List Nat, (∀ i ∈ l, i < L.length) → l.filterMap (fun i => es[i]?) = rws P w (l.filterMap fun i => L[i]?) ∧ (l.filterMap fun i => L[i]?).map (fun r => tkh P w r.2) = l.map fun i => (es.map (·.1)).getD i 0
  | [], _ => ⟨rfl, rfl⟩
  | i :: l, lt => by
    obtain ⟨e1, e2⟩ := rows_by es he l fun j m => lt j (List.mem_cons_of_mem _ m)
    obtain ⟨r0, hi⟩ : ∃ r0, L[i]? = some r0 := ⟨_, List.getElem?_eq_getElem (lt i List.mem_cons_self)⟩
    have ent : es[i]? = some (tkh P w r0.2, Value.ref r0.1) := by
      rw [← Array.getElem?_toList, he, List.getElem?_map, hi]
      rfl
    have head : (es.map (·.1)).getD i 0 = tkh P w r0.2 := by
      have : (es.map (·.1))[i]? = some (tkh P w r0.2) := by
        rw [Array.getElem?_map, ent]
        rfl
      simp [Array.getD_eq_getD_getElem?, this]
    refine ⟨?_, ?_⟩
    · rw [List.filterMap_cons_some ent, List.filterMap_cons_some hi, e1]
      rfl
    · rw [List.filterMap_cons_some hi, List.map_cons, List.map_cons, e2, head]
theorem range_back {α : Type} (L : List α) : (List.range L.length).filterMap (fun i => L[i]?) = L := by
  have : ∀ n, n ≤ L.length → (List.range n).filterMap (fun i => L[i]?) = L.take n := fun n => by
    induction n with
    | zero => exact fun _ => rfl
    | succ n ih =>
      intro h
      have hn : L[n]? = some L[n] := List.getElem?_eq_getElem h
      rw [List.range_succ, List.filterMap_append, ih (Nat.le_of_lt h), List.take_succ, List.filterMap_cons_some hn, hn]
      rfl
  rw [this _ (Nat.le_refl _), List.take_length]
/-- the table is laid anew -/
theorem relay {o : Obj} {ep : Nat} (ho : s.heap.get? a = some o) (hex : o.ExactSet) (hd : o.data = .set es ep t) (row : es.toList = rws P w L) {hs : List Int} (T : TabOk t hs) (hn : hs.length = L.length) (hm : L.length ≤ t.mask) (uni : (L.map (·.2)).Nodup) (key : ∀ r ∈ L, IsK P w s.heap r.2 r.1)
    (led : w.params.followText "set-order" = true ∨ t.led = true) (few : L.length < 64) {n M : Nat} (e1 : SetTable.sizeAbove n - 1 = M) (e2 : MaskOk M) (e3 : SetTable.sizeAbove n ≤ 128) (gap : L.length * 5 < M * 3) {Q : Unit → Shared → Prop}
    (q : ∀ h2 L2 es2 t2, Heap.SameBut a s.heap h2 → SetK P w h2 a L2 es2 t2 → L2.Perm L → Q () { s with heap := h2 }) : wpAny (model P w) A (setRelay a n) Q E s := by
  have len : es.size = L.length := by rw [← Array.length_toList, row, List.length_map]
  obtain ⟨t2, order, laid, perm, T2, mask2, led2, _, _⟩ := relaid_ok t (hs := es.map (·.1)) (wanted := n) e1 e2 (by rw [Array.size_map, len]; omega)
  rw [Array.size_map, len] at perm
  obtain ⟨r1, r2⟩ := rows_by es row order.toList fun i m => List.mem_range.mp (perm.mem_iff.mp m)
  have pm : (order.toList.filterMap fun i => L[i]?).Perm L := by
    have := perm.filterMap fun i => L[i]?
    rwa [range_back] at this
  rw [← r2] at T2
  generalize order.toList.filterMap (fun i => L[i]?) = L2 at r1 r2 pm T2
  have row2 : (order.filterMap (es[·]?)).toList = rws P w L2 := by
    first
      | rw [Array.toList_filterMap]; exact r1
      | simpa using r1
  have len2 : (order.filterMap (es[·]?)).size = es.size := by rw [← Array.length_toList, row2, List.length_map, pm.length_eq, len]
  rw [setRelay_eq]
  refine wpAny_bind (wpAny_setState_of ho hd (fit_of T (by rw [len, hn]) (by rw [len]; exact hm)) ?_)
  dsimp only
  refine wp_if_neg (by rw [sizeLine_eq]; omega) ?_
  try refine wpAny_bind (wpAny_pure ?_)
  rw [laid]
  refine wpAny_bind (wp_if_neg (by rw [len2]; simp) ?_)
  try refine wpAny_bind (wpAny_pure ?_)
  refine wpAny_pure (wpAny_storeSet_of ho hd ?_ (by rw [len2, len, sizeLine_eq]; omega))
  have sb : Heap.SameBut a s.heap (s.heap.update a (Obj.putSet (order.filterMap (es[·]?)) t2)) := Heap.SameBut.update ..
  exact q _ L2 _ t2 sb ⟨⟨_, _, store_at ho hd, ⟨hex.1, hex.2.1, hex.2.2⟩, rfl⟩, row2, T2, (pm.map (·.2)).nodup_iff.mpr uni, fun r m => (key r (pm.mem_iff.mp m)).other ho hd sb, by rw [led2]; exact led, by rw [pm.length_eq, mask2]; exact gap, by rw [pm.length_eq]; exact few⟩ pm
theorem mid_perm {α : Type} (L : List α) (p : Nat) (x : α) : (L.take p ++ x :: L.drop p).Perm (x :: L) := by
  have := List.perm_middle (a := x) (l₁ := L.take p) (l₂ := L.drop p)
  rwa [List.take_append_drop] at this
theorem size_5 : SetTable.sizeAbove (SetTable.grown (4 + 1)) = 32 := size_20
theorem size_19 : SetTable.sizeAbove (SetTable.grown (18 + 1)) = 128 := size_76
theorem ite_bind {α β : Type} {M : Model} {Q : β → Shared → Prop} (c : Prop) [Decidable c] (m n : Sem α) (f : α → Sem β) (h : wpAny M A ((if c then m else n) >>= f) Q E s) : wpAny M A (if c then m >>= f else n >>= f) Q E s := by
  by_cases e : c
  · rw [if_pos e] at h ⊢
    exact h
  · rw [if_neg e] at h ⊢
    exact h
/-- one more -/
theorem add_one (R : SetK P w s.heap a L es t) {x : Addr} {k : List L2.Key} (hx : IsK P w s.heap k x) (hu : A.units < cLine) (room : L.length + 1 < 64) {Q : Bool → Shared → Prop}
    (q : ∀ b h2 L2 es2 t2, Heap.SameBut a s.heap h2 → SetK P w h2 a L2 es2 t2 → (k ∈ L.map (·.2) → L2 = L) → (k ∉ L.map (·.2) → L2.Perm ((x, k) :: L)) → Q b { s with heap := h2 }) : wpAny (model P w) A (setAddHashed a (.ref x) (tkh P w k)) Q E s := by
  obtain ⟨o, ep, ho, hex, hd⟩ := R.obj
  have len := R.len
  have gap := R.gap
  unfold setAddHashed
  refine wpAny_holding ?_
  rw [show (100000 : Nat) = 99999 + 1 from rfl, setAddHashedIn_succ]
  refine wpAny_bind (wpAny_setState_of ho hd R.fit ?_)
  dsimp only
  refine wp_if_neg (by simp [byScan, Value.scannable]) ?_
  try refine wpAny_bind (wpAny_pure ?_)
  refine wpAny_bind (seek0 R hx hu (fun old => ?_) fun K new free full => ?_)
  · exact wpAny_pure (q false s.heap L es t (Heap.SameBut.refl a s.heap) R (fun _ => rfl) fun n => absurd old n)
  dsimp only
  refine wpAny_bind (wpAny_setState_of ho hd R.fit ?_)
  dsimp only
  obtain ⟨p1, p2, p3, p4, p5, p6, p7, p8, p9⟩ := R.tab.put free full
  generalize hput : t.put (way t.mask (tkh P w k) K) = pt at p1 p3 p4 p5 p6 p7 p8 p9 ⊢
  obtain ⟨t1, p⟩ := pt
  dsimp only at p1 p3 p4 p5 p6 p7 p8 p9 ⊢
  subst p1
  -- whatever is said of its hash
  have both : ∀ {Z : Bool → Shared → Prop}, (∀ c, Z c s) → wpAny (model P w) A (if t1.plain = true then hashByValue 8 (.ref x) else pure true) Z E s := fun {Z} hz => by
    by_cases c : t1.plain = true
    · rw [if_pos c]
      exact key_hash hx hz
    · rw [if_neg c]
      exact wpAny_pure (hz true)
  refine ite_bind _ _ _ _ (wpAny_bind (both fun c => ?_))
  generalize hpos : SetTable.below t.place (way t.mask (tkh P w k) K) = p at p2 p3 ⊢
  have pm := mid_perm L p (x, k)
  have T1 : TabOk t1 ((L.take p ++ (x, k) :: L.drop p).map fun r => tkh P w r.2) := by
    rw [List.map_append, List.map_cons, List.map_take, List.map_drop]
    exact p3
  have row1 : (SetTable.insertAt es p (tkh P w k, Value.ref x)).toList = rws P w (L.take p ++ (x, k) :: L.drop p) := by
    rw [SetTable.toList_insertAt, R.row]
    unfold rws
    rw [List.map_append, List.map_cons, List.map_take, List.map_drop]
  have fl : ∃ t2 : SetTable, (if c = true then t1 else { t1 with plain := false }) = t2 ∧ TabOk t2 ((L.take p ++ (x, k) :: L.drop p).map fun r => tkh P w r.2) ∧ t2.mask = t.mask ∧ t2.led = t.led ∧ t2.fill = L.length + 1 := by
    have fill1 : t1.fill = L.length + 1 := by
      rw [p9, List.length_map]
    cases c with
    | true => exact ⟨t1, rfl, T1, p4, p5, fill1⟩
    | false => exact ⟨{ t1 with plain := false }, rfl, ⟨T1.ris, T1.dm, T1.sz, T1.mok, T1.bd, T1.reach⟩, p4, p5, fill1⟩
  obtain ⟨t2, et, T2, mask2, led2, fill2⟩ := fl
  try simp only [et]
  have size1 : (SetTable.insertAt es p (tkh P w k, Value.ref x)).size = L.length + 1 := by
    rw [← Array.length_toList, row1, List.length_map, pm.length_eq, List.length_cons]
  generalize SetTable.insertAt es p (tkh P w k, Value.ref x) = es1 at row1 size1 ⊢
  have uni1 : ((L.take p ++ (x, k) :: L.drop p).map (·.2)).Nodup := (pm.map (·.2)).nodup_iff.mpr (List.nodup_cons.mpr ⟨new, R.uni⟩)
  have len1 : (L.take p ++ (x, k) :: L.drop p).length = L.length + 1 := pm.length_eq
  generalize L.take p ++ (x, k) :: L.drop p = L1 at pm T1 T2 row1 uni1 len1
  refine wpAny_bind (wpAny_storeSet_of ho hd ?_ (by rw [size1, sizeLine_eq]; omega))
  have sb : Heap.SameBut a s.heap (s.heap.update a (Obj.putSet es1 t2)) := Heap.SameBut.update ..
  have ho1 := store_at (es' := es1) (t' := t2) ho hd
  generalize s.heap.update a (Obj.putSet es1 t2) = h1 at sb ho1 ⊢
  have key1 : ∀ r ∈ L1, IsK P w h1 r.2 r.1 := fun r m => (List.mem_cons.mp (pm.mem_iff.mp m)).elim (fun e => by
    rw [e]
    exact hx.other ho hd sb) fun m => (R.key r m).other ho hd sb
  have led1 : w.params.followText "set-order" = true ∨ t2.led = true := by
    rw [led2]
    exact R.led
  have odd1 := R.tab.mok
  by_cases full1 : t2.tooFull = true
  · have many : t.mask * 3 ≤ (L.length + 1) * 5 := by
      have := full1
      unfold SetTable.tooFull at this
      rw [decide_eq_true_eq, fill2, mask2] at this
      exact this
    have again : ∀ M, SetTable.sizeAbove (SetTable.grown (L.length + 1)) - 1 = M → MaskOk M → SetTable.sizeAbove (SetTable.grown (L.length + 1)) ≤ 128 → (L.length + 1) * 5 < M * 3 →
        wpAny (model P w) A (setRelay a (SetTable.grown (es.size + 1))) (fun _ s' => wpAny (model P w) A (pure true) Q E s') E { s with heap := h1 } := fun M m1 m2 m3 m4 => by
      rw [len]
      refine relay (s := { s with heap := h1 }) ho1 ⟨hex.1, hex.2.1, hex.2.2⟩ rfl row1 T2 (by rw [List.length_map]) (by rw [len1, mask2]; omega) uni1 key1 led1 (by rw [len1]; exact room) m1 m2 m3 (by rw [len1]; exact m4) fun h2 L2 es2 t3 sb2 R2 pm2 => ?_
      exact wpAny_pure (q true h2 L2 es2 t3 (sb.trans sb2) R2 (fun z => absurd z new) fun _ => pm2.trans pm)
    have then_ : wpAny (model P w) A (setRelay a (SetTable.grown (es.size + 1))) (fun _ s' => wpAny (model P w) A (pure true) Q E s') E { s with heap := h1 } := by
      rcases odd1 with e | e | e
      · have : L.length = 4 := by omega
        exact again 31 (by rw [this, size_5]) (.inr (.inl rfl)) (by rw [this, size_5]; decide) (by omega)
      · have : L.length = 18 := by omega
        exact again 127 (by rw [this, size_19]) (.inr (.inr rfl)) (by rw [this, size_19]; decide) (by omega)
      · omega
    first
      | exact wpAny_bind (wp_if_pos (by simp [full1]) then_)
      | exact wp_if_pos (by simp [full1]) (wpAny_bind then_)
  · have less : (L.length + 1) * 5 < t.mask * 3 := by
      have := full1
      unfold SetTable.tooFull at this
      rw [decide_eq_true_eq, fill2, mask2] at this
      omega
    have then_ : wpAny (model P w) A (pure true) Q E { s with heap := h1 } := wpAny_pure (q true h1 L1 es1 t2 sb ⟨⟨_, _, ho1, ⟨hex.1, hex.2.1, hex.2.2⟩, rfl⟩, row1, T2, uni1, key1, led1, by rw [len1, mask2]; exact less, by rw [len1]; exact room⟩ (fun z => absurd z new) fun _ => pm)
    first
      | exact wp_if_neg (by simp [full1]) then_
      | exact wpAny_bind (wp_if_neg (by simp [full1]) (wpAny_pure then_))
end
end Sx
set_option Elab.async false
set_option linter.all false
set_option maxRecDepth 100000
set_option maxHeartbeats 3200000
/-! set(xs), xs a list of tuples of texts. -/
namespace Sx
open PySem PySem.Spec PyProof.Rows L2 PySem.W
/-- what the set has from the first i -/
def Gt (ks : List Row) (i : Nat) (L : List Row) : Prop := (∀ r ∈ L, r ∈ ks) ∧ (∀ r ∈ ks.take i, r.2 ∈ L.map (·.2)) ∧ L.length ≤ i
section
variable {P : Program} {w : World} {A : Around} {E : Value → Shared → Prop} {s : Shared}
theorem SetK.kept {h h2 : Heap} {a : Addr} {L : List Row} {es : Array (Int × Value)} {t : SetTable} (R : SetK P w h a L es t) (ha : ∀ o, h.get? a = some o → h2.get? a = some o) (hk : ∀ r ∈ L, IsK P w h2 r.2 r.1) : SetK P w h2 a L es t :=
  ⟨let ⟨o, ep, ho, r⟩ := R.obj; ⟨o, ep, ha o ho, r⟩, R.row, R.tab, R.uni, hk, R.led, R.gap, R.few⟩
abbrev set0 (w : World) : Obj := { cls := .type "set", dict := none, data := .set #[] 0 (.fresh 0 0 (!w.params.followText "set-order")) }
theorem setK_nil {h : Heap} {a : Addr} (ho : h.get? a = some (set0 w)) : SetK P w h a [] #[] (.fresh 0 0 (!w.params.followText "set-order")) where
  obj := ⟨_, 0, ho, ⟨rfl, rfl, rfl⟩, rfl⟩
  row := rfl
  tab := ⟨List.Pairwise.nil, rfl, rfl, .inl rfl, fun x m => (by cases m), fun i h j e => (by simp at e)⟩
  uni := List.nodup_nil
  key := fun r m => (by cases m)
  led := by
    show _ ∨ (!w.params.followText "set-order") = true
    cases w.params.followText "set-order"
    · exact .inr rfl
    · exact .inl rfl
  gap := by show 0 * 5 < 7 * 3; decide
  few := by show 0 < 64; decide
theorem up_loop {I : Addr} {fp wr : List Addr} {G : Array GenState → Array GenState → Prop} {n : Nat} {Pv : Nat → Value → Prop} {St : Nat → Shared → Prop} {R : Result → Shared → Prop} (W : WalksS P w A.in1 I fp wr G n Pv St) (S : Addr) (nS : S ∉ fp) (ks : List Row) (hn : n = ks.length) (few : ks.length < 64)
    (val : ∀ i v, Pv i v → ∃ r, ks[i]? = some r ∧ v = .ref r.1) (h0 : Heap) (hk : ∀ r ∈ ks, IsK P w h0 r.2 r.1) (freeS : h0.get? S = none) (freeW : ∀ b ∈ wr, h0.get? b = none) (hu : A.in1.units < cLine) :
    ∀ (k i : Nat) (s : Shared) (L : List Row) (es : Array (Int × Value)) (t : SetTable), n - i = k → i ≤ n → St i s → (∀ b o, h0.get? b = some o → s.heap.get? b = some o) → SetK P w s.heap S L es t → Gt ks i L →
      (∀ s2 L2 es2 t2, Moved (S :: wr) G s s2 → SetK P w s2.heap S L2 es2 t2 → Gt ks n L2 → (∀ b o, h0.get? b = some o → s2.heap.get? b = some o) → R (.ok (.ret .none)) s2) → codeAny (model P w) A (.builtin "set.update.loop" ⟨[.ref S, .ref I], []⟩) R s := by
  have nW : S ∉ wr := fun m => nS (W.sub _ m)
  have wide : ∀ b ∈ wr, b ∈ S :: wr := fun b m => List.mem_cons_of_mem _ m
  have hold : ∀ {s s2 : Shared}, Moved wr G s s2 → (∀ b o, h0.get? b = some o → s.heap.get? b = some o) → ∀ b o, h0.get? b = some o → s2.heap.get? b = some o := fun mv e b o hb => mv.heap b o (fun m => by rw [freeW b m] at hb; cases hb) (e b o hb)
  intro k
  induction k with
  | zero =>
    intro i s L es t e hi hst old hS g go
    obtain rfl : i = n := by omega
    refine codeAny_builtin F.entry_set_update_loop ?_
    rw [Around.under_plainId F.plain_set_update_loop _]
    show wpAny _ A.in1 (pyNext (.ref I) >>= _) _ _ s
    refine wpAny_bind (W.done s _ _ hst fun s2 mv => ?_)
    show wpAny _ A.in1 (ret Value.none) _ _ s2
    have old2 := hold mv old
    exact wpAny_pure (go s2 L es t (mv.mono wide) (hS.kept (fun o ho => mv.heap S o nW ho) fun r m => (hk r (g.1 r m)).kept old2) g old2)
  | succ k ih =>
    intro i s L es t e hi hst old hS g go
    have lt : i < n := by omega
    refine codeAny_builtin F.entry_set_update_loop ?_
    rw [Around.under_plainId F.plain_set_update_loop _]
    show wpAny _ A.in1 (pyNext (.ref I) >>= _) _ _ s
    refine wpAny_bind (W.item i s _ _ lt hst fun v s2 hv hst2 mv => ?_)
    obtain ⟨r, hr, rfl⟩ := val i v hv
    have old2 := hold mv old
    have rk := List.mem_of_getElem? hr
    have hS2 : SetK P w s2.heap S L es t := hS.kept (fun o ho => mv.heap S o nW ho) fun r m => (hk r (g.1 r m)).kept old2
    have hx : IsK P w s2.heap r.2 r.1 := (hk r rk).kept old2
    show wpAny _ A.in1 (holding [Value.ref r.1] (setAdd S (.ref r.1)) >>= _) _ _ s2
    refine wpAny_bind (wpAny_holding ?_)
    unfold setAdd
    refine wpAny_holding (wpAny_bind (wpAny_pyHash_tuple hu hx ?_))
    refine add_one (s := { s2 with toks := s2.toks + (r.2.length + 1) }) hS2 hx hu (by have := g.2.2; omega) fun b h3 L3 es3 t3 sb hS3 c1 c2 => ?_
    have old3 : ∀ b o, h0.get? b = some o → h3.get? b = some o := fun b o hb => (sb.2 b fun z => by rw [z, freeS] at hb; cases hb).trans (old2 b o hb)
    have next : ks.take (i + 1) = ks.take i ++ [r] := by
      rw [List.take_succ, hr]
      rfl
    have g3 : Gt ks (i + 1) L3 := by
      rcases Classical.em (r.2 ∈ L.map (·.2)) with c | c
      · rw [c1 c]
        refine ⟨g.1, fun q m => ?_, Nat.le_succ_of_le g.2.2⟩
        rw [next] at m
        rcases List.mem_append.mp m with m | m
        · exact g.2.1 q m
        · rw [List.mem_singleton.mp m]
          exact c
      · have pm := c2 c
        refine ⟨fun q m => ?_, fun q m => ?_, by rw [pm.length_eq]; exact Nat.succ_le_succ g.2.2⟩
        · rcases List.mem_cons.mp (pm.mem_iff.mp m) with z | z
          · rw [z]
            exact rk
          · exact g.1 q z
        · rw [(pm.map (·.2)).mem_iff]
          rw [next] at m
          rcases List.mem_append.mp m with m | m
          · exact List.mem_cons_of_mem _ (g.2.1 q m)
          · rw [List.mem_singleton.mp m]
            exact List.mem_cons_self
    refine wpAny_pure ⟨plainId_quiet F.plain_set_update_loop _, ih (i + 1) _ L3 es3 t3 (by omega) lt (W.frame _ s2 _ _ hst2 (Nat.le_add_right _ _) fun b m o ho => ?_) old3 hS3 g3 fun s4 L4 es4 t4 mv4 hS4 g4 old4 => go s4 L4 es4 t4 (Moved.trans W.gtrans ((mv.mono wide).then_heap (Nat.le_add_right _ _) fun b o m ho => ?_) mv4) hS4 g4 old4⟩
    · exact (sb.2 b fun z => nS (z ▸ m)).trans ho
    · exact (sb.2 b fun z => m (by rw [z]; exact List.mem_cons_self)).trans ho
/-- set(xs) -/
theorem set_call {l : Addr} {items : Array Value} (ks : List Row) {Q : Value → Shared → Prop} (quiet : A.handled = none) (hl : s.heap.IsList l items) (hit : items.toList = ks.map fun r => Value.ref r.1) (hk : ∀ r ∈ ks, IsK P w s.heap r.2 r.1) (few : ks.length < 64) (hu : A.units + 3 < cLine)
    (q : ∀ (h2 : Heap) (tk : Nat) L es t, SetK P w h2 s.heap.objs.size L es t → Gt ks ks.length L → (∀ b o, s.heap.get? b = some o → h2.get? b = some o) → Q (.ref s.heap.objs.size) { s with heap := h2, toks := tk }) : wpAny (model P w) A (call (.type "set") [.ref l]) Q E s := by
  have count : items.size = ks.length := by rw [← Array.length_toList, hit, List.length_map]
  obtain ⟨c, tl, hmro⟩ := F.called_set.mro
  have i1 := F.called_set.made
  have i2 := F.called_set.sub
  refine wpAny_call (codeAny_of_tree (?_ : wpAny _ _ (callAny (.type "set") _) _ _ _))
  refine wpAny_pure ⟨Code.quiet_builtin _ (by decide +kernel), codeAny_builtin F.entry_type_call ?_⟩
  rw [Around.under_plain (weight_type_call_type "set" [.ref l] []) rfl]
  have i3 := F.called_set.notType
  have i4 := F.called_set.canCreate
  have i5 := F.typeCall_set_1 (.ref l)
  repeat (any_goals (first | assumption | wp_step))
  have fresh : (s.heap.push (set0 w)).get? s.heap.objs.size = some (set0 w) := Heap.get?_push_size _ rfl
  refine codeAny_mono (code_set_led1 (.ref l) (E := E) (Q₁ := fun made t => made = .ref s.heap.objs.size ∧ t = { s with heap := s.heap.push (set0 w) }) ⟨rfl, rfl⟩) fun r t hr => ?_
  cases r with
  | error e => exact hr
  | ok fl =>
    cases fl with
    | ret made =>
      obtain ⟨rfl, rfl⟩ := hr
      have ty : Shared.TypeIs { s with heap := s.heap.push (set0 w) } (.ref s.heap.objs.size) "set" := ⟨_, fresh, rfl⟩
      have i6 := F.called_set.init.lookup
      have i7 := F.called_set.init.bind (.ref s.heap.objs.size)
      repeat (any_goals (first | assumption | wp_step))
      refine codeAny_mono (codeAny_call_builtin (R := wants (fun r t2 => r = .none ∧ ∃ h2 tk L es tb, t2 = { s with heap := h2, toks := tk } ∧ SetK P w h2 s.heap.objs.size L es tb ∧ Gt ks ks.length L ∧ ∀ b o, s.heap.get? b = some o → h2.get? b = some o) E) F.called_set.init.plain F.entry_set_init (check_set_init_1 ty ?_)) fun r2 t2 hr2 => ?_
      · obtain ⟨ol, hol, hcl, nl, hdl⟩ := hl
        obtain ⟨c0, d0, dat0, sl0⟩ := ol
        dsimp only at hcl hdl
        subst hcl hdl
        have stays : (s.heap.push (set0 w)).get? l = some { cls := .type "list", dict := d0, data := .seq items nl, slots := sl0 } := Heap.get?_push_of_some _ hol
        have i8 := F.sub_list_set
        have i9 := F.sub_list_frozenset
        have i0 : (Value.type "list" == Value.type "dict") = false := by decide
        have hl1 : (s.heap.push (set0 w)).IsList l items := ⟨_, stays, rfl, nl, rfl⟩
        unfold Builtin.«set.__init__» noKeywords Builtin.Frozenset.updateFrom
        generalize hit0 : pyIter = iter0
        wp_walk
        subst hit0
        refine wpAny_pyIter_list hl1 (wpAny_bind (wpAny_runValue ?_))
        have lS : l < s.heap.objs.size := Heap.lt_size hol
        have sz1 : (s.heap.push (set0 w)).objs.size = s.heap.objs.size + 1 := Heap.size_push ..
        have quiet3 : A.in1.in1.in1.handled = none := quiet
        have apart : l ≠ (s.heap.push (set0 w)).objs.size := by
          rw [sz1]
          exact Nat.ne_of_lt (Nat.lt_succ_of_lt lS)
        have nS : s.heap.objs.size ∉ [(s.heap.push (set0 w)).objs.size, l] := by
          rw [sz1]
          simp only [List.mem_cons, List.not_mem_nil, or_false, not_or]
          exact ⟨Nat.ne_of_lt (Nat.lt_succ_self _), Nat.ne_of_gt lS⟩
        have val : ∀ (i : Nat) (v : Value), items[i]? = some v → ∃ r, ks[i]? = some r ∧ v = .ref r.1 := fun i v hv => by
          rw [← Array.getElem?_toList, hit, List.getElem?_map] at hv
          cases hr : ks[i]? with
          | none => rw [hr] at hv; cases hv
          | some r =>
            rw [hr] at hv
            exact ⟨r, rfl, (Option.some.inj hv).symm⟩
        have nothing : ∀ b, s.heap.objs.size ≤ b → s.heap.get? b = none := fun b hb => by
          cases e : s.heap.get? b with
          | none => rfl
          | some o => exact absurd (Nat.lt_of_lt_of_le (Heap.lt_size e) hb) (Nat.lt_irrefl _)
        refine up_loop ((Walks.list quiet3 _ l apart items).toS) s.heap.objs.size nS ks count few val s.heap hk (nothing _ (Nat.le_refl _)) (fun b m => nothing b ?_) hu (items.size - 0) 0 _ [] #[] _ (by omega) (Nat.zero_le _) ⟨⟨_, Heap.get?_push_size _ rfl, rfl, rfl⟩, hl1.push _⟩
          (fun b o e => Heap.get?_push_of_some _ (Heap.get?_push_of_some _ e)) (setK_nil (Heap.get?_push_of_some _ fresh)) ⟨fun r m => (by cases m), fun r m => (by simp at m), Nat.le_refl _⟩ fun t3 L es tb mv hS g old => ?_
        · rw [List.mem_singleton.mp m, sz1]
          exact Nat.le_succ _
        · obtain ⟨h3, g3, d3, k3, o3⟩ := t3
          obtain rfl : g3 = s.gens := mv.gens
          obtain rfl : d3 = s.drawn := mv.drawn
          obtain rfl : o3 = s.os := mv.os
          show wpAny _ _ _ _ _ _
          refine wpAny_pure ?_
          show wpAny _ _ (ret Value.none) _ _ _
          rw [count] at g
          exact wpAny_pure ⟨rfl, h3, k3, L, es, tb, rfl, hS, g, old⟩
      · cases r2 with
        | error e => exact hr2
        | ok fl2 =>
          cases fl2 with
          | ret v2 =>
            obtain ⟨rfl, h2, tk, L, es, tb, rfl, hS, g, old⟩ := hr2
            repeat (any_goals (first | assumption | wp_step))
            exact q _ _ _ _ _ hS g old
          | _ => exact hr2.elim
    | _ => exact hr.elim
end
end Sx
set_option Elab.async false
set_option linter.all false
set_option maxRecDepth 100000
set_option maxHeartbeats 3200000
/-! sorted(set(xs)), xs a list of pairs of names. -/
namespace Sx
open PySem PySem.Spec PyProof.Rows L2 PySem.W
section
variable {X : Cx} {pins : List (Addr × Obj)} {σ : L2.St} {H : Hp} {s : Shared}
/-- sorted(x), what is collected of x drawn -/
theorem sorted_drawn {x : Value} {Ds : List PyData → Prop} {Q : VK} (hu : X.A.units + 65 < cLine)
    (hc : ∀ (R : List Value → Shared → Prop) (E : Value → Shared → Prop), (∀ (s2 : Shared) (acc : List Value) ds, Ds ds → Inv X pins σ H s2 → EachIs (fun u d => ∃ v, RelV v u ∧ Dq H v d) acc ds → R acc s2) → wpAny (model X.prog X.w) X.A.in1 (collect x) R E s)
    (ha : ∀ ds, Ds ds → AllAlike ds ∧ Sortable ds ∧ ds.length ≤ 100000 ∧ ∀ d ∈ ds, d.depth ≤ 40)
    (q : ∀ p ys ds, Ds ds → H p = none → DqAll H ys (ds.mergeSort (dataLe false id)) → Q (.ref p) (upd H p (.lst ys))) : wpAny (model X.prog X.w) X.A (call (.builtin "sorted") [x]) (EP X pins σ Q) X.xe s := by
  refine Calls.call_function_entry PyProof.Rows.kind_sorted PyProof.Rows.plain_sorted PyProof.Rows.entry_sorted (PyProof.Rows.args_sorted1 _) ?_
  unfold Builtin.«sorted»
  refine wpAny_bind (m := checkCount "sorted" 1 1 _) (wpAny_pure ?_)
  refine wpAny_bind (hc _ _ fun s2 acc ds hds I1 heach => ?_)
  obtain ⟨hal0, hk, hz, hd⟩ := ha ds hds
  obtain ⟨h', g', d', tk, os'⟩ := s2
  have hal : acc.length = ds.length := heach.length
  have hsz : acc.length ≤ sizeLine := by
    rw [hal]
    exact Nat.le_trans hz (by decide)
  refine wpAny_bind (wpAny_newList ?_ hsz)
  have hoL : (h'.push (seqObj "list" acc.toArray 0)).get? h'.objs.size = some (seqObj "list" acc.toArray 0) := Heap.get?_push_size _ rfl
  show wpAny _ _ _ _ _ (⟨h'.push (seqObj "list" acc.toArray 0), g', d', tk, os'⟩ : Shared)
  have I2 : Inv X pins σ H (⟨h'.push (seqObj "list" acc.toArray 0), g', d', tk, os'⟩ : Shared) := I1.kept (t' := tk) fun b o e => Heap.get?_push_of_some _ e
  have e0 : ds.map id = ds := List.map_id ds
  refine wpAny_bind (wpAny_holding (list_sort_data (enc := id) (R := fun u d => ∃ v, RelV v u ∧ Dq H v d) (s := (⟨h'.push (seqObj "list" acc.toArray 0), g', d', tk, os'⟩ : Shared)) hoL heach ?_ (by rw [e0]; exact hal0) (by rw [e0]; exact hk) (Nat.le_trans hz (by decide)) (fun d m => ?_) fun out hl ho => ?_))
  · refine heach.mono fun u d ⟨v, r, q⟩ => ?_
    obtain ⟨as, hr⟩ := Dp.reads I1 d v u q.dp r
    refine ⟨as, PyProof.Rows.Reads.keeps (fun _ _ e => Heap.get?_push_of_some _ e) hr, fun m => ?_⟩
    obtain ⟨o, e⟩ := reads_in hr _ m
    exact absurd (Heap.lt_size e) (Nat.lt_irrefl _)
  · have := hd d m
    show X.A.units + 1 + 1 + d.depth < cLine
    omega
  · obtain ⟨ys, ry, hy⟩ := of_each ho
    obtain ⟨e', he'⟩ := PyProof.Rows.sortedHeap_at (vs := acc) (out := out.toArray) hoL
    have hlen : ys.length ≤ sizeLine := by
      rw [ry.length, hl]
      exact Nat.le_trans hz (by decide)
    refine wpAny_pure ⟨_, rfl, .ref h'.objs.size, upd H h'.objs.size (.lst ys), I1.laid (t' := tk) (fun b u e => ?_) (Nat.le_refl _) (show ObjOk X.prog X.w _ _ _ (.lst ys) from ⟨hlen, out, e', ry, he'⟩), rfl, q _ ys ds hds (I1.hok.fresh (Nat.le_refl _)) hy⟩
    have hb : b < h'.objs.size := Heap.lt_size e
    rw [PyProof.Rows.sortedHeap_old (Nat.ne_of_lt hb) (by rw [size_push']; exact Nat.lt_succ_of_lt hb)]
    exact Heap.get?_push_of_some _ e
theorem inv_drawn {s2 : Shared} (I : Inv X pins σ H s) (k : ∀ b o, s.heap.get? b = some o → s2.heap.get? b = some o) (g : s2.gens = s.gens) (o : s2.os = s.os) : Inv X pins σ H s2 :=
  I.call' (ch := []) o (Un.kept k) (I.hok.kept k) (by rw [g]; exact I.bare) fun _ z => nomatch z
end
theorem perm_inv {α β : Type} {f : α → β} : ∀ {as : List α} {bs : List β}, bs.Perm (as.map f) → ∃ cs : List α, cs.Perm as ∧ bs = cs.map f := by
  intro as bs h
  generalize e : as.map f = ds at h
  induction h generalizing as with
  | nil =>
    exact ⟨as, .refl _, e.symm⟩
  | cons x p ih =>
    cases as with
    | nil => cases e
    | cons a as =>
      rw [List.map_cons] at e
      injection e with e1 e2
      obtain ⟨cs, h1, h2⟩ := ih e2
      exact ⟨a :: cs, h1.cons a, by rw [List.map_cons, h2, e1]⟩
  | swap x y l =>
    cases as with
    | nil => cases e
    | cons a as =>
      cases as with
      | nil =>
        rw [List.map_cons] at e
        injection e with e1 e2
        cases e2
      | cons a2 as =>
        rw [List.map_cons, List.map_cons] at e
        injection e with e1 e2
        injection e2 with e2 e3
        exact ⟨a2 :: a :: as, .swap _ _ _, by rw [List.map_cons, List.map_cons, e1, e2, e3]⟩
  | trans p q ih1 ih2 =>
    obtain ⟨cs, h1, h2⟩ := ih2 e
    obtain ⟨ds, h3, h4⟩ := ih1 h2.symm
    exact ⟨ds, h3.trans h1, h4⟩
/-- sorted(set(xs)), xs a list of pairs of names -/
def tSortSet (te : TE) : TE := fun σ H Q => te σ H fun x H1 => ∃ (p : Addr) (vs : List V) (ks : List Key2), x = .ref p ∧ H1 p = some (.lst vs) ∧ DqAll H1 vs (ks.map kD) ∧ ks.length ≤ 60 ∧
  ∀ q ys (es : List Key2), H1 q = none → es.Nodup → (∀ k, k ∈ es ↔ k ∈ ks) → DqAll H1 ys ((es.mergeSort (leD kD)).map kD) → Q (.ref q) (upd H1 q (.lst ys))
/-- the pairs with their places -/
theorem places {H : Hp} : ∀ {vs : List V} {ks : List Key2}, DqAll H vs (ks.map kD) → ∃ kr : List (Addr × Key2), kr.map (·.2) = ks ∧ vs = kr.map (fun r => V.ref r.1) ∧ ∀ r ∈ kr, H r.1 = some (.tup ((kKK r.2).map kV)) ∧ Dq H (.ref r.1) (kD r.2)
  | [], [], _ => ⟨[], rfl, rfl, fun r m => by cases m⟩
  | [], _ :: _, h => by
    rw [List.map_cons] at h
    cases h
  | _ :: _, [], h => by
    rw [List.map_nil] at h
    cases h
  | v :: vs, k :: ks, h => by
    rw [List.map_cons] at h
    cases h with
    | cons h1 h2 =>
      obtain ⟨kr, e1, e2, e3⟩ := places h2
      cases h1 with
      | @tup a us _ t1 t2 =>
        cases t2 with
        | cons r1 t3 =>
          cases t3 with
          | cons r2 t4 =>
            cases t4
            have f1 := dq_k r1
            have f2 := dq_k r2
            subst f1 f2
            refine ⟨(a, k) :: kr, by rw [List.map_cons, e1], by rw [List.map_cons, e2], fun r m => ?_⟩
            rcases List.mem_cons.mp m with z | z
            · subst z
              exact ⟨t1, .tup t1 (.cons r1 (.cons r2 .nil))⟩
            · exact e3 r z
section
variable {X : Cx}
theorem pe_sortedSet {e : Expr} {te : TE} {p p2 pos pos2 : Pos} (hc : X.calm = true) (hu : X.A.units + 65 < cLine) (hg : Gl X "sorted") (hm : X.mg "sorted" = none) (hg2 : Gl X "set") (hm2 : X.mg "set" = none) (he : PE X e te)
    (hs : starEach [e] X.env = (false, eval e X.env) :: starEach [] X.env := by rfl)
    (hs2 : starEach [.Call (.Name "set" p2) [e] [] pos2] X.env = (false, eval (.Call (.Name "set" p2) [e] [] pos2) X.env) :: starEach [] X.env := by rfl) :
    PE X (.Call (.Name "sorted" p) [.Call (.Name "set" p2) [e] [] pos2] [] pos) (tSortSet te) := by
  constructor
  intro pn s0 σ H Q I h
  refine wpAny_Call_Name_kw (ld_blt I hg hm PyProof.Rows.boot_sorted ?_)
  refine PyProof.Rows.callWith_builtin1 (args_cons (?_ : wpAny _ _ (eval (.Call (.Name "set" p2) [e] [] pos2) X.env) _ _ _) hs2) hs2
  refine Call_ (ld_blt I hg2 hm2 PyProof.Rows.boot_set (PyProof.Rows.callWith_type1 (args_cons (thn (he.run pn s0 σ H _ I h) fun u s1 ⟨xv, H1, I1, r1, w1⟩ => args_nil ?_) hs) hs))
  obtain ⟨l, vs, ks, rfl, hl, dv, few, go⟩ := w1
  obtain rfl : u = .ref l := r1
  obtain ⟨its, rv, pl, hz⟩ := I1.list (.inl (.inl hl))
  obtain ⟨kr, e1, e2, e3⟩ := places dv
  subst e1 e2
  have refs : its = kr.map fun r => Value.ref r.1 := by
    have e4 : kr.map (fun r => V.ref r.1) = (kr.map (·.1)).map V.ref := by
      rw [List.map_map]
      rfl
    rw [e4] at rv
    rw [refs_at rv, List.map_map]
    rfl
  rw [List.length_map] at few
  refine set_call (P := X.prog) (w := X.w) (s := s1) (A := X.A) (kr.map fun r => (r.1, kKK r.2)) (I1.ok.hd hc) pl.isList (by rw [List.toList_toArray, refs, List.map_map]; rfl) (fun r m => ?_) (by rw [List.length_map]; omega) (by omega) fun h2 tk L es t hS g old => args_nil ?_
  · obtain ⟨r0, m0, rfl⟩ := List.mem_map.mp m
    exact key_of I1.hok (e3 r0 m0).1
  have I2 : Inv X pn σ H1 { s1 with heap := h2, toks := tk } := I1.kept old
  obtain ⟨o, ep, ho, hex, hd⟩ := hS.obj
  have fit0 := SetK.fit (s := { s1 with heap := h2, toks := tk }) hS
  have len0 := SetK.len (s := { s1 with heap := h2, toks := tk }) hS
  have few0 := hS.few
  refine sorted_drawn (H := H1) (Ds := fun ds => ∃ es : List Key2, ds = es.map kD ∧ es.Nodup ∧ (∀ k, k ∈ es ↔ k ∈ kr.map (·.2)) ∧ es.length < 64) hu (fun R E k => ?_) (fun ds ⟨es, e4, _, _, e5⟩ => ?_) fun q ys ds ⟨es, e4, e5, e6, _⟩ hq hy => ?_
  · refine collect_set (A := X.A.in1) (P := X.prog) (w := X.w) (s := { s1 with heap := h2, toks := tk }) (I1.ok.hd hc) ⟨o, ho, hex.1, hd⟩ fit0 (by unfold scanBound; omega) hS.tab.ris hS.led fun s3 out k3 _ g3 o3 pm => ?_
    have I3 : Inv X pn σ H1 s3 := inv_drawn I2 k3 g3 o3
    have e7 : es.toList.map (·.2) = L.map fun r => Value.ref r.1 := by
      rw [hS.row]
      unfold rws
      rw [List.map_map]
      rfl
    rw [e7] at pm
    obtain ⟨L2, pm2, rfl⟩ := perm_inv pm
    have back : ∀ l : List Row, (∀ r ∈ l, r ∈ kr.map fun r => (r.1, kKK r.2)) → ∃ kl : List (Addr × Key2), l = kl.map (fun r => (r.1, kKK r.2)) ∧ ∀ r ∈ kl, r ∈ kr := fun l => by
      induction l with
      | nil => exact fun _ => ⟨[], rfl, fun r m => by cases m⟩
      | cons r l ih =>
        intro hl
        obtain ⟨r0, m0, e0⟩ := List.mem_map.mp (hl r List.mem_cons_self)
        obtain ⟨kl, f1, f2⟩ := ih fun q m => hl q (List.mem_cons_of_mem _ m)
        exact ⟨r0 :: kl, by rw [List.map_cons, e0, f1], fun q m => (List.mem_cons.mp m).elim (fun z => z ▸ m0) (f2 q)⟩
    obtain ⟨kl, f1, f2⟩ := back L2 fun r m => g.1 r (pm2.mem_iff.mp m)
    subst f1
    refine k s3 _ ((kl.map (·.2)).map kD) ⟨kl.map (·.2), rfl, ?_, fun k => ?_, ?_⟩ I3 (each_items (by simp) fun j v d j1 j2 => ?_)
    · have n1 := (pm2.map (·.2)).nodup_iff.mpr hS.uni
      rw [List.map_map] at n1
      have n2 : ((kl.map (·.2)).map kKK).Nodup := by
        rw [List.map_map]
        exact n1
      exact List.Pairwise.of_map kKK (fun a b hne e => hne (congrArg kKK e)) n2
    · refine ⟨fun m => ?_, fun m => ?_⟩
      · obtain ⟨r, m1, rfl⟩ := List.mem_map.mp m
        exact List.mem_map.mpr ⟨r, f2 r m1, rfl⟩
      · obtain ⟨r, m1, rfl⟩ := List.mem_map.mp m
        have m2 := g.2.1 (r.1, kKK r.2) (by rw [List.take_length]; exact List.mem_map.mpr ⟨r, m1, rfl⟩)
        have m3 := (pm2.map (·.2)).mem_iff.mpr m2
        rw [List.map_map] at m3
        obtain ⟨r2, m4, e8⟩ := List.mem_map.mp m3
        exact List.mem_map.mpr ⟨r2, m4, kKK_inj e8⟩
    · rw [List.length_map]
      have := pm2.length_eq
      rw [List.length_map] at this
      have := hS.few
      omega
    · rw [List.map_map, List.getElem?_map] at j1
      rw [List.map_map, List.getElem?_map] at j2
      cases c : kl[j]? with
      | none =>
        rw [c] at j1
        cases j1
      | some r =>
        rw [c] at j1 j2
        cases j1
        cases j2
        exact ⟨.ref r.1, rfl, (e3 r (f2 r (List.mem_of_getElem? c))).2⟩
  · subst e4
    refine ⟨AllAlike.of srtK.al, ?_, by rw [List.length_map]; omega, fun d m => ?_⟩
    · rcases srtK.sb with z | z
      · exact Sortable.tuples z
      · exact Sortable.others z
    · obtain ⟨c, _, rfl⟩ := List.mem_map.mp m
      exact Nat.le_trans (encK.dep c) (by decide)
  · subst e4
    rw [sort_map] at hy
    exact go q ys es hq e5 e6 hy
end
end Sx
set_option Elab.async false
set_option linter.all false
set_option maxRecDepth 100000
set_option maxHeartbeats 1000000
/-! tuple(zip(..)), dict comprehensions with tuple keys, sorted(set(..)), over symbolic states. -/
namespace Sx
open PySem PySem.Spec PyProof.Rows L2 PySem.W

/-! ### readings -/
/-- a fresh dict with tuple keys, walked: it is locked from then on -/
def tFrzNew (td : TE) : TE := fun σ H Q => td σ H fun x H1 => ∃ (d : Addr) (kvs : List (List Key × V)), x = V.ref d ∧ H1 d = some (.dT kvs) ∧ ∀ o, Q x (upd H1 d (.frz o (.dT kvs)))
def iNewT (td : TE) : TI := iKeys (tFrzNew td)
/-! ### rules -/
section
variable {X : Cx}
theorem pi_newT {tg e : Expr} {td : TE} (he : PE X e td) : PI X tg e (iNewT td) := pi_keys ⟨fun pins s σ H Q I h => by
  refine thn (he.run pins s σ H _ I h) fun u s1 ⟨x, H1, I1, r1, d, kvs, ex, hd, q⟩ => ?_
  obtain ⟨od, I2⟩ := I1.lock hd True.intro
  exact ⟨x, _, I2, r1, q od⟩⟩
end

/-! ### over symbolic states -/
section
variable {H0 : Hp} {x : List Addr} {ss : SS} {ta : TA} {te td : TE} {t : Ty} {K : PySem.W.Frag}
theorem dq_tup_out {M : List Addr} {H H2 : Hp} {p : Addr} {ws : List V} (T : Trk M H) (e : Same H H2) (h : H2 p = some (.tup ws)) : p ∉ M := fun m => by
  obtain ⟨o, h1, n⟩ := T p m
  have h2 := e p o h1
  rw [h] at h2
  exact n ws (Option.some.inj h2).symm
theorem pairs_dq {M : List Addr} {H H2 : Hp} (T : Trk M H) (e : Same H H2) : ∀ {ws : List V} {xs ys : List V} {ds es : List PyData}, PairsOf H2 ws (xs.zip ys) → DqAll (hid M H) xs ds → DqAll (hid M H) ys es → DqAll (hid M H2) ws ((ds.zip es).map fun z => .tuple [z.1, z.2])
  | [], _, _, _, _, h, .nil, _ => .nil
  | [], _, _, _, _, h, .cons _ _, .nil => .nil
  | [], _, _, _, _, h, .cons _ _, .cons _ _ => h.elim
  | _ :: _, _, _, _, _, h, .nil, _ => h.elim
  | _ :: _, _, _, _, _, h, .cons _ _, .nil => h.elim
  | w :: ws, _, _, _, _, h, .cons a1 a2, .cons b1 b2 => by
    obtain ⟨⟨q, rfl, hq⟩, hr⟩ := h
    refine .cons (.tup (vs := [_, _]) ?_ (.cons (dp_mono (hid_mono e) a1) (.cons (dp_mono (hid_mono e) b1) .nil))) (pairs_dq T e hr a2 b2)
    rw [hid_out (dq_tup_out T e hq)]
    exact hq
/-- tuple(zip(a, b)) -/
theorem ev_tupZip {ds es : List PyData} (h : EaD H0 x ss ta [.im (.tuple ds), .im (.tuple es)]) (hz : ds.length ≤ 100000) : EvD H0 x ss (tTupZip K ta) (.im (.tuple ((ds.zip es).map fun z => .tuple [z.1, z.2]))) := fun σ H S Q q =>
  h σ H S _ fun ts vs H1 p S1 e r => by
    subst p
    obtain ⟨v, w, rfl, r1, r2⟩ := hold2 r
    cases r1 with
    | tup a1 a2 =>
      cases r2 with
      | tup b1 b2 =>
        refine ⟨_, _, _, _, rfl, .inl (.inl (hid_some a1).2), .inl (.inl (hid_some b1).2), by rw [dps_len a2]; exact hz, fun H2 p ws e2 hp hw => ?_⟩
        refine q _ _ H2 rfl (S1.pure e2) (e.trans (hid_mono e2)) (.tup ?_ (pairs_dq S1.trk e2 hw a2 b2))
        rw [hid_out (dq_tup_out S1.trk e2 hp)]
        exact hp
theorem dq_hid0 {H : Hp} : hid [] H = H := by
  funext a
  exact hid_out (fun m => nomatch m)
/-- data without a list is seen whatever is hidden -/
theorem nl_seen {M : List Addr} {H : Hp} (T : Trk M H) {v : V} {d : PyData} (n : Nl d) (h : Dq H v d) : Dq (hid M H) v d := by
  rw [← dq_hid0 (H := H)] at h
  refine nl_hide (fun a ha _ xs e => ?_) n h
  obtain ⟨o, h1, n1⟩ := T a ha
  rw [h1] at e
  exact n1 xs (Option.some.inj e)
theorem nls_seen {M : List Addr} {H : Hp} (T : Trk M H) {vs : List V} {ds : List PyData} (n : ∀ d ∈ ds, Nl d) (h : DqAll H vs ds) : DqAll (hid M H) vs ds := by
  rw [← dq_hid0 (H := H)] at h
  refine nls_hide (fun a ha _ xs e => ?_) n h
  obtain ⟨o, h1, n1⟩ := T a ha
  rw [h1] at e
  exact n1 xs (Option.some.inj e)
theorem nl_keys (ks : List Key2) : ∀ d ∈ ks.map kD, Nl d := fun d h => by
  obtain ⟨k, _, rfl⟩ := List.mem_map.mp h
  exact nlK k
theorem nl_nms (ks : List Nm) : ∀ d ∈ ks.map nD, Nl d := nl_strs ks
/-- sorted(set(xs)) -/
theorem ev_sortSet {Φ Ψ : Ty → Prop} (h : Ev H0 x ss te Φ) (k : ∀ t, Φ t → ∃ ks : List Key2, t = .im (.list (ks.map kD)) ∧ ks.length ≤ 60 ∧ ∀ es : List Key2, es.Nodup → (∀ k, k ∈ es ↔ k ∈ ks) → Ψ (.im (.list ((es.mergeSort (leD kD)).map kD)))) : Ev H0 x ss (tSortSet te) Ψ := fun σ H S Q q =>
  h σ H S _ fun t v H1 p S1 e r => by
    obtain ⟨ks, rfl, hz, hΨ⟩ := k t p
    have r : Dq _ v (.list (ks.map kD)) := r
    cases r with
    | lst r1 r2 =>
      refine ⟨_, _, ks, rfl, (hid_some r1).2, dps_mono same_hid r2, hz, fun p ys es hp hn hm hy => ?_⟩
      exact q _ _ _ (hΨ es hn hm) (S1.pure (same_new hp)) (e.trans (hid_mono (same_new hp))) (.lst (hid_new S1.trk hp) (dps_mono (hid_mono (same_new hp)) (nls_seen S1.trk (nl_keys _) hy)))
/-- sorted(d), keys pairs of names, names -/
theorem kv_ktD {H : Hp} : ∀ {vs : List (List Key × V)} {kvs : List (List Key × PyData)}, KvOk H vs kvs → vs.map (fun p => ktD p.1) = kvs.map (fun p => ktD p.1)
  | [], [], _ => rfl
  | _ :: _, _ :: _, h => by rw [List.map_cons, List.map_cons, h.1, kv_ktD h.2.2]
  | [], _ :: _, h => h.elim
  | _ :: _, [], h => h.elim
theorem kv_kyD {H : Hp} : ∀ {vs : List (Key × V)} {kvs : List (Key × PyData)}, KvOk H vs kvs → vs.map (fun p => kyD p.1) = kvs.map (fun p => kyD p.1)
  | [], [], _ => rfl
  | _ :: _, _ :: _, h => by rw [List.map_cons, List.map_cons, h.1, kv_kyD h.2.2]
  | [], _ :: _, h => h.elim
  | _ :: _, [], h => h.elim
theorem ev_sortDT {kvs : List (List Key × PyData)} {ks : List Key2} (h : DkE H0 x ss td HO.dT kvs) (hk : kvs.map (·.1) = ks.map kKK) (hz : ks.length ≤ 100000) : EvD H0 x ss (tCB rSortDT (tCons td tNil)) (.im (.list ((ks.mergeSort (leD kD)).map kD))) := fun σ H S Q q =>
  h σ H S _ fun a H1 S1 e k => by
    obtain ⟨vs, h1, h2⟩ := k H1 S1 (Same.refl _)
    have e2 : ks.map kD = vs.map (fun p => ktD p.1) := by
      rw [kv_ktD h2]
      show ks.map kD = kvs.map (ktD ∘ fun p => p.1)
      rw [← List.map_map, hk, List.map_map]
      rfl
    refine ⟨a, vs, ks.map kD, rfl, .inl h1, e2, AllAlike.of srtK.al, ?_, by rw [List.length_map]; exact hz, fun d m => ?_, fun p ys hp hy => ?_⟩
    · rcases srtK.sb with z | z
      · exact Sortable.tuples z
      · exact Sortable.others z
    · obtain ⟨c, _, rfl⟩ := List.mem_map.mp m
      exact Nat.le_trans (encK.dep c) (by decide)
    · rw [sort_map] at hy
      exact q _ _ _ rfl (S1.pure (same_new hp)) (e.trans (hid_mono (same_new hp))) (.lst (hid_new S1.trk hp) (dps_mono (hid_mono (same_new hp)) (nls_seen S1.trk (nl_keys _) hy)))
theorem ev_sortDK {kvs : List (Key × PyData)} {ks : List Nm} (h : DkE H0 x ss td HO.dK kvs) (hk : kvs.map (·.1) = ks.map kN) (hz : ks.length ≤ 100000) : EvD H0 x ss (tCB rSortDK (tCons td tNil)) (.im (.list ((ks.mergeSort (leD nD)).map nD))) := fun σ H S Q q =>
  h σ H S _ fun a H1 S1 e k => by
    obtain ⟨vs, h1, h2⟩ := k H1 S1 (Same.refl _)
    have e2 : ks.map nD = vs.map (fun p => kyD p.1) := by
      rw [kv_kyD h2]
      show ks.map nD = kvs.map (kyD ∘ fun p => p.1)
      rw [← List.map_map, hk, List.map_map]
      rfl
    refine ⟨a, vs, ks.map nD, rfl, .inl h1, e2, AllAlike.of srtN.al, ?_, by rw [List.length_map]; exact hz, fun d m => ?_, fun p ys hp hy => ?_⟩
    · rcases srtN.sb with z | z
      · exact Sortable.tuples z
      · exact Sortable.others z
    · obtain ⟨c, _, rfl⟩ := List.mem_map.mp m
      exact Nat.le_trans (encS.dep c) (by decide)
    · rw [sort_map] at hy
      exact q _ _ _ rfl (S1.pure (same_new hp)) (e.trans (hid_mono (same_new hp))) (.lst (hid_new S1.trk hp) (dps_mono (hid_mono (same_new hp)) (nls_seen S1.trk (nl_nms _) hy)))
/-- what was mine and is seen no more -/
theorem Sat.lose {p : Addr} {m : MO} {o : HO} {σ : L2.St} {H : Hp} (S : Sat H0 x (ss.wl [(p, m)]) σ H) : Sat H0 x ss σ (upd H p o) ∧ Same (hid (({ ss with l := (p, m) :: ss.l } : SS).M x) H) (hid (ss.M x) (upd H p o)) := by
  have S : Sat H0 x { ss with l := (p, m) :: ss.l } σ H := S
  have nd : (p :: ss.l.map (·.1)).Nodup := S.nd
  obtain ⟨h0, hm⟩ := S.ls (p, m) List.mem_cons_self
  have e : Same (hid (({ ss with l := (p, m) :: ss.l } : SS).M x) H) (hid (ss.M x) (upd H p o)) := fun a u h => by
    obtain ⟨n, h⟩ := hid_some h
    have n : a ∉ p :: ss.M x := n
    rw [hid_out fun z => n (List.mem_cons_of_mem _ z), upd_ne fun z => n (by rw [z]; exact List.mem_cons_self)]
    exact h
  refine ⟨⟨fun a u n h => ?_, fun q hq => ?_, (List.nodup_cons.mp nd).2, fun b c h => ?_, S.tx, fun i t h => ?_, S.ln⟩, e⟩
  · rw [upd_ne fun z => by rw [z, show H0 p = none from h0] at h; cases h]
    exact S.fr a u n h
  · obtain ⟨h1, h2⟩ := S.ls q (List.mem_cons_of_mem _ hq)
    refine ⟨h1, MO.mono e ?_ h2⟩
    exact upd_ne fun y => (List.nodup_cons.mp nd).1 (List.mem_map.mpr ⟨q, hq, y⟩)
  · obtain ⟨h1, h2, h3⟩ := S.bg b c h
    obtain ⟨n, s0, s1, s2, cs, e1, e2, r⟩ := h1
    refine ⟨⟨n, s0, s1, s2, cs, ?_, ?_, r⟩, h2, h3⟩
    · rw [upd_ne fun y => h2 (by rw [y]; exact h0)]
      exact e1
    · rw [upd_ne fun y => h3 (by rw [y]; exact h0)]
      exact e2
  · rcases S.vr i t h with z | ⟨v, h1, h2⟩
    · exact .inl z
    · exact .inr ⟨v, h1, Ty.mono e h2⟩
/-- a walk over a fresh dict's keys -/
theorem src_newT {Φ : MO → Prop} {Ψ : Nat → (Nat → Ty) → Prop} (h : EvM H0 x ss td Φ) (k : ∀ m, Φ m → ∃ kvs : List (List Key × PyData), m = .dT kvs ∧ (∀ q ∈ kvs, Nl (ktD q.1)) ∧ Ψ kvs.length (fun i => .im ((kvs.map fun q => ktD q.1).getD i .none))) : SrcP H0 x ss (iNewT td) Ψ := fun σ H S R r =>
  h σ H S _ fun p m H1 hm hp S1 e => by
    obtain ⟨kvs, rfl, hn, hΨ⟩ := k m hm
    obtain ⟨_, vs, h1, h2⟩ := S1.ls (p, .dT kvs) List.mem_cons_self
    refine ⟨p, vs, rfl, h1, fun o => ⟨p, o, rfl, .inr ⟨vs, upd_same, ?_⟩⟩⟩
    obtain ⟨S2, e2⟩ := Sat.lose (ss := ss) (o := .frz o (.dT vs)) S1
    have hl : vs.length = kvs.length := kv_len h2
    have hpM : p ∉ ss.M x := S.trk.fresh hp
    have W : Walk (Itkt p o vs) kvs.length (fun H2 => Same (hid (ss.M x) (upd H1 p (.frz o (.dT vs)))) H2) (fun i H2 z H3 => H3 = H2 ∧ ∃ (k : List Key) (v : V) (q : Addr), vs[i]? = some (k, v) ∧ z = .ref q ∧ H2 q = some (.tup (k.map kV))) := by
      rw [← hl]
      refine (walk_keysT (d := p) (o := o) (kvs := vs)).mono (fun H2 g => g p _ ?_) fun i H2 z H3 _ _ y => y
      rw [hid_out hpM]
      exact upd_same
    refine r _ _ (Itkt p o vs) _ _ hΨ S2 (fun a u ha => ?_) W fun i H2 v H3 M2 hi s3 T y => ?_
    · have ha0 := (hid_some ha).2
      have ne := ne_of_none ha0 hp
      obtain ⟨n1, h4⟩ := hid_some (e a u ha)
      have n1 : a ∉ ss.bm := n1
      rw [hid_out n1, upd_ne ne]
      exact h4
    · obtain ⟨rfl, k, v', q, h5, rfl, h6⟩ := y
      refine ⟨Same.refl _, ?_⟩
      show Dq _ _ _
      have e7 : (kvs.map fun q => ktD q.1).getD i .none = ktD k := by
        rw [← kv_ktD h2, List.getD_eq_getElem?_getD, List.getElem?_map, h5]
        rfl
      have hk : Nl (ktD k) := by
        have : ktD k ∈ kvs.map fun q => ktD q.1 := by
          rw [← kv_ktD h2]
          exact List.mem_map.mpr ⟨_, List.mem_of_getElem? h5, rfl⟩
        obtain ⟨q2, h8, h9⟩ := List.mem_map.mp this
        rw [← h9]
        exact hn q2 h8
      rw [e7]
      exact nl_seen T hk (.tup h6 (dq_kys _))
end
theorem putD_len {κ : Type} [DecidableEq κ] (kvs : List (κ × PyData)) (k : κ) (d : PyData) : (putD kvs k d).length ≤ kvs.length + 1 := by
  unfold putD
  split
  · rw [List.length_map]
    omega
  · rw [List.length_append, List.length_singleton]
    exact Nat.le_refl _
section
variable {H0 : Hp} {x : List Addr} {ss : SS} {wi : TI} {g : TG} {tk tv : TE} {vs : List Nat}
abbrev SS.cmT (ss : SS) (vs : List Nat) (D : Addr) (acc : List (List Key × PyData)) : SS := { ss with g := wipeT ss.g vs, l := (D, .dT acc) :: ss.l }
theorem em_dcT {Ψ : Nat → (Nat → Ty) → Prop} {Φ : MO → Prop} (hs : SrcP H0 x ss wi Ψ) (J : (Nat → Ty) → Nat → List (List Key × PyData) → Prop) (h0 : ∀ n ty, Ψ n ty → n ≤ 100000 ∧ J ty 0 [])
    (step : ∀ n ty, Ψ n ty → ∀ H1, Bs x ss.b H0 H1 → ∀ D i acc, i < n → J ty i acc → ∃ ws s', Bd H1 x g (ss.cmT vs D acc) (ty i) ws s' ∧ (∀ w ∈ ws, w ∈ vs) ∧ s'.l = (D, .dT acc) :: ss.l ∧ s'.b = ss.b ∧
      ∃ (k : Key2) (d : PyData), EvD H1 x s' tk (.im (kD k)) ∧ EvD H1 x s' tv (.im d) ∧ J ty (i + 1) (putD acc (kKK k) d))
    (done : ∀ n ty, Ψ n ty → ∀ acc, J ty n acc → Φ (.dT acc)) : EvM H0 x ss (tDcT wi g tYes tk tv vs) Φ := fun σ H S Q q =>
  hs σ H S _ fun n ty It H' Y p S1 e w y => by
    intro D hD
    obtain ⟨hn, hj⟩ := h0 n ty p
    obtain ⟨S2, B⟩ := S1.now
    obtain ⟨S3, e3⟩ := S2.mine (m := .dT []) (o := .dT []) hD fun M => ⟨[], upd_same, trivial⟩
    have grow : ∀ {H2 : Hp} {acc : List (List Key × PyData)}, Sat (hid (ss.l.map (·.1)) H') x { ss with l := (D, .dT acc) :: ss.l } σ H2 → Same (hid (ss.M x) H') H2 := fun Z => (Z.seen (ss := ss) rfl).trans same_hid
    refine ⟨fun i m H2 => m = n - i ∧ i ≤ n ∧ ∃ acc, J ty i acc ∧ acc.length ≤ i ∧ Fr ss H' H2 ∧ Sat (hid (ss.l.map (·.1)) H') x { ss with l := (D, .dT acc) :: ss.l } σ H2, ⟨n, by simp, Nat.zero_le _, [], hj, Nat.zero_le _, hid_mono (same_new hD), S3⟩, ?_⟩
    rintro i m H2 ⟨rfl, hin, acc, hJ, hl, F4, S4⟩
    by_cases hlt : i < n
    · refine .inr ⟨w.goes i H2 hlt (grow S4), fun H2 => ∃ acc, J ty (i + 1) acc ∧ acc.length ≤ i + 1 ∧ Fr ss H' H2 ∧ Sat (hid (ss.l.map (·.1)) H') x { ss with l := (D, .dT acc) :: ss.l } σ H2, fun H5 q5 => ⟨n - (i + 1), by omega, rfl, hlt, q5⟩, fun v H3 yy => ?_⟩
      obtain ⟨e5, hv⟩ := y i H2 v H3 (({ ss with l := (D, .dT acc) :: ss.l } : SS).M x) hlt (S4.seen (ss := ss) rfl) S4.trk (w.yields i H2 v H3 hlt (grow S4) yy)
      have S5 := S4.pure e5
      have S6 := S5.wipe vs
      obtain ⟨ws, s', hB, hw, hl', hb', k, d, hK, hE, hJ'⟩ := step n ty p _ B D i acc hlt hJ
      refine hB v (wipe σ vs) H3 _ S6 hv fun σ2 S7 k7 l7 => ⟨?_, ?_⟩
      · rw [wipe_eq (σ1 := σ2) (σ2 := wipe σ vs) (fun i n => k7 i fun m => n (hw i m)) l7]
        exact wipe_wipe σ vs
      · have hM : s'.M x = ({ ss with l := (D, .dT acc) :: ss.l } : SS).M x := by
          unfold SS.M SS.bm
          rw [hl', hb']
        have hbm : s'.bm = ss.bm := by
          unfold SS.bm
          rw [hb']
        refine et_yes σ2 H3 S7 _ fun b H4 p4 S8 e8 => ?_
        subst p4
        rw [if_pos rfl]
        refine hK σ2 H4 S8 _ fun t1 y1 H5 p5 S9 e9 r9 => hE σ2 H5 S9 _ fun t2 y2 H6 p6 S10 e10 r10 => ?_
        subst p5 p6
        have e11 : Fr s' H3 H6 := (e8.trans e9).trans e10
        have S11 : Sat (hid (ss.l.map (·.1)) H') x { ss with l := (D, .dT acc) :: ss.l } σ H6 := S5.step (ss := { ss with l := (D, .dT acc) :: ss.l }) (by have e12 : Same (hid s'.bm H3) (hid s'.bm H6) := e11; rw [hbm] at e12; exact e12) S10 hb'
        have r9' : Dq (hid (({ ss with l := (D, .dT acc) :: ss.l } : SS).M x) H6) y1 (kD k) := by
          have : Dq (hid (s'.M x) H6) y1 (kD k) := Ty.mono (t := .im (kD k)) (Fr.m e10) r9
          rw [hM] at this
          exact this
        obtain ⟨h0D, us, hD6, hds⟩ := S11.ls (D, .dT acc) List.mem_cons_self
        have kk : ∃ q : Addr, y1 = .ref q ∧ H6 q = some (.tup ((kKK k).map kV)) := by
          cases r9' with
          | tup a1 a2 =>
            cases a2 with
            | cons b1 b2 =>
              cases b2 with
              | cons b2 b3 =>
                cases b3
                rw [dq_k b1, dq_k b2] at a1
                exact ⟨_, rfl, (hid_some a1).2⟩
        obtain ⟨q1, rfl, hq1⟩ := kk
        refine ⟨us, kKK k, q1, rfl, hq1, hD6, ?_, putD acc (kKK k) d, hJ', ?_, ?_, ?_⟩
        · rw [kv_len hds]
          exact Nat.lt_of_le_of_lt (Nat.le_trans hl (Nat.le_trans (Nat.le_of_lt hlt) hn)) (by decide)
        · have := putD_len acc (kKK k) d
          omega
        · have e12 : Same (hid s'.bm H3) (hid s'.bm H6) := e11
          rw [hbm] at e12
          intro a o h
          have h5 := ((F4.trans (hid_mono e5)).trans e12) a o h
          obtain ⟨n5, h5⟩ := hid_some h5
          rw [hid_out n5, upd_ne fun z => ?_]
          · exact h5
          · rw [z] at h
            rw [(hid_some h).2] at hD
            cases hD
        · refine (S11.chg (ss := ss) (m' := .dT (putD acc (kKK k) d)) ⟨_, upd_same, kv_put ?_ hds⟩).1
          have r' : Dq (hid (s'.M x) H6) y2 d := r10
          rw [hM] at r'
          exact r'
    · have en : i = n := by omega
      subst en
      refine .inl ⟨w.stops H2 (grow S4), ?_⟩
      refine q D (.dT acc) H2 (done i ty p acc hJ) ?_ (S4.back (ss := ss) B rfl) (e.trans F4)
      cases z : H D with
      | none => rfl
      | some o =>
        by_cases hb : D ∈ ss.bm
        · obtain ⟨c, hc⟩ := bm_iff.mp hb
          obtain ⟨⟨_, s0, s1, s2, cs, e1, _⟩, _⟩ := S1.bg D c hc
          rw [e1] at hD
          cases hD
        · have h1 := e D o (by rw [hid_out hb]; exact z)
          rw [(hid_some h1).2] at hD
          cases hD
end
section
variable {H0 : Hp} {x : List Addr} {ss : SS} {te : TE}
theorem rc_sortDT {kvs : List (List Key × PyData)} {ks : List Key2} (hk : kvs.map (·.1) = ks.map kKK) (hz : ks.length ≤ 100000) : RCl rSortDT [.dT kvs] (fun z => z = .im (.list ((ks.mergeSort (leD kD)).map kD))) := fun M vs H T h Q q => by
  obtain ⟨v, rfl, a, us, rfl, h1, h2⟩ := hold1 h
  have e2 : ks.map kD = us.map (fun p => ktD p.1) := by
    rw [kv_ktD h2]
    show ks.map kD = kvs.map (ktD ∘ fun p => p.1)
    rw [← List.map_map, hk, List.map_map]
    rfl
  refine ⟨a, us, ks.map kD, rfl, .inl (hid_some h1).2, e2, AllAlike.of srtK.al, ?_, by rw [List.length_map]; exact hz, fun d m => ?_, fun p ys hp hy => ?_⟩
  · rcases srtK.sb with z | z
    · exact Sortable.tuples z
    · exact Sortable.others z
  · obtain ⟨c, _, rfl⟩ := List.mem_map.mp m
    exact Nat.le_trans (encK.dep c) (by decide)
  · rw [sort_map] at hy
    exact q _ _ _ rfl (same_new hp) (.lst (hid_new T hp) (dps_mono (hid_mono (same_new hp)) (nls_seen T (nl_keys _) hy)))
theorem ev_sortDTM {Φ : MO → Prop} {Ψ : Ty → Prop} (h : EvM H0 x ss te Φ) (k : ∀ m, Φ m → ∃ (kvs : List (List Key × PyData)) (ks : List Key2), m = .dT kvs ∧ kvs.map (·.1) = ks.map kKK ∧ ks.length ≤ 100000 ∧ Ψ (.im (.list ((ks.mergeSort (leD kD)).map kD)))) : Ev H0 x ss (tCB rSortDT (tCons te tNil)) Ψ :=
  ev_cb (ea_consP (h.ev (Ψ := fun t => ∃ m, Φ m ∧ t = m.ty) fun m hm => ⟨m, hm, rfl⟩) ea_nil) fun ts ⟨t, r, e, ⟨m, hm, et⟩, e2⟩ => by
    obtain ⟨kvs, ks, rfl, h1, h2, h3⟩ := k m hm
    subst e2 e et
    exact fun M vs H T hh Q qq => rc_sortDT h1 h2 M vs H T hh Q fun w v H' z => qq w v H' (by rw [z]; exact h3)
end
end Sx
set_option Elab.async false
set_option linter.all false
set_option maxRecDepth 100000
set_option maxHeartbeats 1000000
/-! dict(..) of pairs. -/
namespace Sx
open PySem PySem.Spec PyProof.Rows L2 PySem.W

def PrT (K : PySem.W.Frag) (H : Hp) : List Addr → List (List Key × V) → Prop
  | [], [] => True
  | w :: ws, q :: qs => (∃ b, SqT K H w [.ref b, q.2] ∧ H b = some (.tup (q.1.map kV))) ∧ PrT K H ws qs
  | _, _ => False
/-- dict(xs) of a list or a tuple of pairs, the keys tuples, no two alike -/
def rDictT (K : PySem.W.Frag) : List V → Hp → VK → Prop := fun xs H Q => ∃ (a : Addr) (ws : List Addr) (kvs : List (List Key × V)), xs = [.ref a] ∧ (SqL K H a (ws.map V.ref) ∨ ∃ o, H a = some (.frz o (.tup (ws.map V.ref))) ∧ o.dict = none) ∧ PrT K H ws kvs ∧ (kvs.map (·.1)).Nodup ∧ kvs.length ≤ 100000 ∧
  ∀ p, H p = none → Q (.ref p) (upd H p (.dT kvs))
section
variable {X : Cx} {pins : List (Addr × Obj)} {σ : L2.St} {H : Hp} {s : Shared}
theorem prt_pairs (I : Inv X pins σ H s) : ∀ {ws : List Addr} {kvs : List (List Key × V)}, PrT X.K H ws kvs → ∃ ps : List (List Key × Addr × Value), ps.length = kvs.length ∧ ws.length = kvs.length ∧ KT H kvs ps ∧
    ∀ (j : Nat) (q : List Key × Addr × Value), ps[j]? = some q → ∃ w, ws[j]? = some w ∧ IsTup s.heap w #[.ref q.2.1, q.2.2]
  | [], [], _ => ⟨[], rfl, rfl, .nil, fun j q e => by simp at e⟩
  | w :: ws, kv :: kvs, h => by
    obtain ⟨⟨b, h1, h2⟩, hr⟩ := h
    obtain ⟨ps, e1, e2, e3, e4⟩ := prt_pairs I hr
    obtain ⟨its, rv, ht, _⟩ := I.tuple h1
    obtain ⟨u, y, ei, ru, ry⟩ := vals2 rv
    subst ei
    cases ru
    refine ⟨(kv.1, b, y) :: ps, by rw [List.length_cons, List.length_cons, e1], by rw [List.length_cons, List.length_cons, e2], .cons ⟨rfl, h2, ry⟩ e3, fun j q e => ?_⟩
    cases j with
    | zero =>
      have e' : (kv.1, b, y) = q := Option.some.inj e
      subst e'
      exact ⟨w, rfl, ht⟩
    | succ j =>
      obtain ⟨w', f1, f2⟩ := e4 j q (by simpa using e)
      exact ⟨w', by simpa using f1, f2⟩
  | [], _ :: _, h => h.elim
  | _ :: _, [], h => h.elim
theorem kt_keys {kvs : List (List Key × V)} {ps : List (List Key × Addr × Value)} (r : KT H kvs ps) : ps.map (·.1) = kvs.map (·.1) := by
  induction r with
  | nil => rfl
  | cons h _ ih => rw [List.map_cons, List.map_cons, ih, h.1]
theorem cr_dictT (hc : X.calm = true) (hu : X.A.units + 65 < cLine) : CallR X (.type "dict") (rDictT X.K) := by
  intro pins s σ H xs us Q I r h
  obtain ⟨a, ws, kvs, rfl, hq, hp, hn, hz, q⟩ := h
  rw [Vals.ref1 r]
  obtain ⟨ps, e1, e2, e3, e4⟩ := prt_pairs I hp
  have hpn : (ps.map (·.1)).Nodup := by
    rw [kt_keys e3]
    exact hn
  have hkind : ∀ x ∈ ps, (tupleKind (mixKind X.prog X.w)).is s.heap x.1 x.2.1 := fun x hx => by
    obtain ⟨j, hj⟩ := List.getElem?_of_mem hx
    obtain ⟨y, _, hb⟩ := kt_pair e3 j hj
    exact key_of I.hok hb
  have hst : KeysStay (tupleKind (mixKind X.prog X.w)) s.heap s.heap.objs.size [] ps := fun h' hk x hx => by
    obtain ⟨o, arr, n, h1, r⟩ := hkind x hx
    exact ⟨o, arr, n, hk _ _ (Nat.ne_of_lt (Heap.lt_size h1)) (fun m => nomatch m) h1, r⟩
  have items : PairItems s.heap ((ws.map Value.ref).toArray) (fun j => ws.getD j 0) (ps.map fun q => (Value.ref q.2.1, q.2.2)) := by
    refine ⟨by simp [e1, e2], fun j k v hj => ?_⟩
    rw [List.getElem?_map] at hj
    cases hq : ps[j]? with
    | none =>
      rw [hq] at hj
      cases hj
    | some q =>
      rw [hq] at hj
      have hj : (Value.ref q.2.1, q.2.2) = (k, v) := Option.some.inj hj
      cases hj
      obtain ⟨w, f1, f2⟩ := e4 j q hq
      have f3 : ws.getD j 0 = w := by
        rw [List.getD_eq_getElem?_getD, f1]
        rfl
      refine ⟨by simp [f1, f3], ?_⟩
      show PairAt s.heap (ws.getD j 0) _ _
      rw [f3]
      exact .inl f2
  have have_ : PairsHaveH (tupleKind (mixKind X.prog X.w)) (ps.map fun q => (Value.ref q.2.1, q.2.2)).length (PairRel (ps.map fun q => (Value.ref q.2.1, q.2.2))) ps := by
    refine ⟨by rw [List.length_map], fun i key v hr => ?_⟩
    rw [PairRel, List.getElem?_map] at hr
    cases hq : ps[i]? with
    | none =>
      rw [hq] at hr
      cases hr
    | some q =>
      rw [hq] at hr
      have hr : (Value.ref q.2.1, q.2.2) = (key, v) := Option.some.inj hr
      cases hr
      exact ⟨q.1, q.2.1, rfl, rfl⟩
  have fin : ∀ (h' : Heap) (tk : Nat), h'.DictOfH (tupleKind (mixKind X.prog X.w)) s.heap.objs.size (storedAllH [] ps) → (∀ b o, b ∉ ([] : List Addr) → s.heap.get? b = some o → h'.get? b = some o) → EP X pins σ Q (.ref s.heap.objs.size) { s with heap := h', toks := tk } := fun h' tk hd hk => by
    rw [storedAllH_nil_of_nodup ps hpn] at hd
    obtain ⟨o, es, ep, g1, g2, g3, g4, _, g5⟩ := hd
    exact ⟨.ref s.heap.objs.size, upd H s.heap.objs.size (.dT kvs), I.laid (t' := tk) (fun b o e => hk b o (fun m => nomatch m) e) (Nat.le_refl _) (show ObjOk X.prog X.w _ _ _ (.dT kvs) from ⟨Nat.le_trans hz (by decide), beq_eq_false_iff_ne.mpr (Ne.symm (Nat.ne_of_lt I.big)), ps, e3.keeps fun b ys hb => by
      rw [upd_ne (ne_of_none hb (I.hok.fresh (Nat.le_refl _)))]
      exact hb, o, es, ep, g1, g2, g3, g4, g5⟩), rfl, q _ (I.hok.fresh (Nat.le_refl _))⟩
  have hroom : (tupleKind (mixKind X.prog X.w)).room X.A.in1.in1 := tupleKind_room_in1 (A := X.A.in1) (by show X.A.units + 1 + 1 < cLine; omega)
  have hsz : (ps.map fun q => (Value.ref q.2.1, q.2.2)).length ≤ sizeLine := by
    rw [List.length_map, e1]
    exact Nat.le_trans hz (by decide)
  rcases hq with hq | hq
  · obtain ⟨its, rv, pl, _⟩ := I.list hq
    have ei := refs_at rv
    subst ei
    refine call_dict_pairsH (PairArg.list a _ _ _) (I.ok.hd hc) hroom ⟨?_, items⟩ have_ hst hsz fin
    obtain ⟨o, n, h1, h2, h3, h4⟩ := pl
    exact ⟨o, n, h1, h2, h3, h4⟩
  · obtain ⟨ob, hq, hdn⟩ := hq
    obtain ⟨hg, hz2, its, rv, o, h1, h2, n, h4⟩ := (show ObjOk X.prog X.w H s.heap a (.frz ob (.tup (ws.map V.ref))) from I.hok a _ hq)
    have ei := refs_at rv
    subst ei
    rw [hg] at h1
    cases h1
    exact call_dict_pairsH (PairArg.tuple a _ _ _) (I.ok.hd hc) hroom ⟨⟨_, n, hg, h2, hdn, h4⟩, items⟩ have_ hst hsz fin
end
/-! ### over symbolic states -/
theorem refs_of {H : Hp} {f : PyData → Prop} : ∀ {vs : List V} {ds : List PyData}, (∀ d ∈ ds, ∃ es, d = .tuple es) → DqAll H vs ds → ∃ ws : List Addr, vs = ws.map V.ref
  | _, _, _, .nil => ⟨[], rfl⟩
  | _, _, n, .cons a r => by
    obtain ⟨ws, e⟩ := refs_of (f := f) (fun d m => n d (List.mem_cons_of_mem _ m)) r
    obtain ⟨es, e2⟩ := n _ List.mem_cons_self
    subst e2
    cases a with
    | tup h1 h2 => exact ⟨_ :: ws, by rw [e]; rfl⟩
theorem prt_of {K : PySem.W.Frag} {M : List Addr} {H : Hp} : ∀ {ws : List Addr} {ts : List (Key2 × PyData)}, DqAll (hid M H) (ws.map V.ref) (ts.map fun q => .tuple [kD q.1, q.2]) → ∃ kvs : List (List Key × V), PrT K H ws kvs ∧ KvOk (hid M H) kvs (ts.map fun q => (kKK q.1, q.2))
  | [], [], _ => ⟨[], trivial, trivial⟩
  | w :: ws, t :: ts, h => by
    rw [List.map_cons, List.map_cons] at h
    cases h with
    | cons a r =>
      obtain ⟨kvs, h1, h2⟩ := prt_of (K := K) r
      cases a with
      | tup a1 a2 =>
        cases a2 with
        | @cons v1 _ _ _ b1 b2 =>
          cases b2 with
          | @cons v2 _ _ _ b2 b3 =>
            cases b3
            cases b1 with
            | @tup kq _ _ c1 c2 =>
              cases c2 with
              | cons d1 d2 =>
                cases d2 with
                | cons d2 d3 =>
                  cases d3
                  rw [dq_k d1, dq_k d2] at c1
                  exact ⟨(kKK t.1, v2) :: kvs, ⟨⟨kq, .inl (.inl (hid_some a1).2), (hid_some c1).2⟩, h1⟩, rfl, b2, h2⟩
  | [], _ :: _, h => by
    rw [List.map_nil, List.map_cons] at h
    cases h
  | _ :: _, [], h => by
    rw [List.map_nil, List.map_cons] at h
    cases h
theorem kKK_nodup {α : Type} {ts : List (Key2 × α)} (h : (ts.map (·.1)).Nodup) : ((ts.map fun q => (kKK q.1, q.2)).map (·.1)).Nodup := by
  have e : (ts.map fun q => (kKK q.1, q.2)).map (·.1) = (ts.map (·.1)).map kKK := by
    rw [List.map_map, List.map_map]
    rfl
  rw [e]
  exact (List.pairwise_map).mpr (List.Pairwise.imp (fun hne he => hne (kKK_inj he)) h)
section
variable {H0 : Hp} {x : List Addr} {ss : SS} {te : TE} {K : PySem.W.Frag}
theorem em_dictL {ts : List (Key2 × PyData)} (h : EvD H0 x ss te (.im (.list (ts.map fun q => .tuple [kD q.1, q.2])))) (hn : (ts.map (·.1)).Nodup) (hz : ts.length ≤ 100000) : EvM H0 x ss (tCB (rDictT K) (tCons te tNil)) (fun m => m = .dT (ts.map fun q => (kKK q.1, q.2))) := fun σ H S Q q =>
  h σ H S _ fun t v H1 p S1 e r => by
    subst p
    have r : Dq _ v (.list (ts.map fun q => .tuple [kD q.1, q.2])) := r
    cases r with
    | lst r1 r2 =>
      rename_i a vs
      obtain ⟨ws, rfl⟩ := refs_of (f := fun _ => True) (fun d m => by obtain ⟨q, _, rfl⟩ := List.mem_map.mp m; exact ⟨_, rfl⟩) r2
      obtain ⟨kvs, h1, h2⟩ := prt_of (K := K) r2
      have hl : kvs.length = ts.length := by
        have := kv_len h2
        rwa [List.length_map] at this
      refine ⟨a, ws, kvs, rfl, .inl (.inl (.inl (hid_some r1).2)), h1, by rw [kv_keys h2]; exact kKK_nodup hn, by omega, fun p hp => ?_⟩
      obtain ⟨S2, e2⟩ := S1.mine (m := .dT []) (o := .dT []) hp fun M => ⟨[], upd_same, trivial⟩
      have S3 := (S2.chg (ss := ss) (m' := .dT (ts.map fun q => (kKK q.1, q.2))) (o := .dT kvs) ⟨kvs, upd_same, kv_mono e2 h2⟩).1
      rw [upd_upd] at S3
      refine q p _ _ rfl ?_ S3 (e.trans (hid_mono (same_new hp)))
      cases z : H p with
      | none => rfl
      | some o =>
        by_cases hb : p ∈ ss.bm
        · obtain ⟨c, hc⟩ := bm_iff.mp hb
          obtain ⟨⟨_, s0, s1, s2, cs, e3, _⟩, _⟩ := S1.bg p c hc
          rw [e3] at hp
          cases hp
        · have h2 := e p o (by rw [hid_out hb]; exact z)
          rw [(hid_some h2).2] at hp
          cases hp
theorem em_dictZ {F : List Stf} (h : EvD H0 x ss te (fzTy F)) (hn : (F.map (·.1)).Nodup) (hz : F.length ≤ 100000) : EvM H0 x ss (tCB (rDictT K) (tCons te tNil)) (fun m => m = .dT (F.map fun q => (kKK q.1, nD q.2))) := fun σ H S Q q =>
  h σ H S _ fun t v H1 p S1 e r => by
    subst p
    obtain ⟨a, o, vs, rfl, r1, hd, r2⟩ := fz_at r
    have r2 : DqAll (hid (ss.M x) H1) vs ((F.map fun q => (q.1, nD q.2)).map fun q => .tuple [kD q.1, q.2]) := by
      rw [List.map_map]
      exact r2
    obtain ⟨ws, rfl⟩ := refs_of (f := fun _ => True) (fun d m => by obtain ⟨q, _, rfl⟩ := List.mem_map.mp m; exact ⟨_, rfl⟩) r2
    obtain ⟨kvs, h1, h2⟩ := prt_of (K := K) r2
    have e0 : ((F.map fun q => (q.1, nD q.2)).map fun q => (kKK q.1, q.2)) = F.map fun q => (kKK q.1, nD q.2) := by
      rw [List.map_map]
      rfl
    rw [e0] at h2
    have hl : kvs.length = F.length := by
      have := kv_len h2
      rwa [List.length_map] at this
    have hk : ((F.map fun q => (kKK q.1, nD q.2)).map (·.1)).Nodup := by
      rw [← e0]
      refine kKK_nodup ?_
      rw [List.map_map]
      exact hn
    refine ⟨a, ws, kvs, rfl, .inr ⟨o, (hid_some r1).2, hd⟩, h1, by rw [kv_keys h2]; exact hk, by omega, fun p hp => ?_⟩
    obtain ⟨S2, e2⟩ := S1.mine (m := .dT []) (o := .dT []) hp fun M => ⟨[], upd_same, trivial⟩
    have S3 := (S2.chg (ss := ss) (m' := .dT (F.map fun q => (kKK q.1, nD q.2))) (o := .dT kvs) ⟨kvs, upd_same, kv_mono e2 h2⟩).1
    rw [upd_upd] at S3
    refine q p _ _ rfl ?_ S3 (e.trans (hid_mono (same_new hp)))
    cases z : H p with
    | none => rfl
    | some o =>
      by_cases hb : p ∈ ss.bm
      · obtain ⟨c, hc⟩ := bm_iff.mp hb
        obtain ⟨⟨_, s0, s1, s2, cs, e3, _⟩, _⟩ := S1.bg p c hc
        rw [e3] at hp
        cases hp
      · have h2 := e p o (by rw [hid_out hb]; exact z)
        rw [(hid_some h2).2] at hp
        cases hp
end
end Sx
set_option Elab.async false
set_option linter.all false
set_option maxRecDepth 100000
set_option maxHeartbeats 1000000
/-! tuple(list) of which the object is known; dict of pairs with texts as keys; displays with lists of mine. -/
namespace Sx
open PySem PySem.Spec PyProof.Rows L2 PySem.W
def rTupZ (K : PySem.W.Frag) : List V → Hp → VK → Prop := fun xs H Q => ∃ (p : Addr) (ys : List V), xs = [.ref p] ∧ SqL K H p ys ∧ ∀ (l : Addr) (o : Obj), H l = none → o.dict = none → Q (.ref l) (upd H l (.frz o (.tup ys)))
theorem cr_tupZ {X : Cx} : CallR X (.type "tuple") (rTupZ X.K) := by
  intro pins s σ H xs us Q I r h
  obtain ⟨p, ys, rfl, hq, q⟩ := h
  rw [Vals.ref1 r]
  obtain ⟨its, r', pl, hz⟩ := I.list hq
  have hlen := r'.length
  refine call_tuple_list pl.isList (fun h' kp => ?_) (by simp only [List.size_toArray] <;> omega)
  have I1 : Inv X pins σ H { s with heap := h' } := I.kept (t' := s.toks) kp
  have ho : (h'.push { cls := .type "tuple", data := .seq its.toArray }).get? h'.objs.size = some { cls := .type "tuple", data := .seq its.toArray } := Heap.get?_push_size _ rfl
  have I2 : Inv X pins σ (upd H h'.objs.size (.frz { cls := .type "tuple", data := .seq its.toArray } (.tup ys))) { s with heap := h'.push { cls := .type "tuple", data := .seq its.toArray } } :=
    I1.laid (t' := s.toks) (fun b o e => Heap.get?_push_of_some _ e) (Nat.le_refl _) (show ObjOk X.prog X.w _ _ _ (.frz _ (.tup ys)) from ⟨ho, hz, its, r', IsTup.new _ _⟩)
  exact ⟨.ref h'.objs.size, _, I2, rfl, q _ _ (I1.hok.fresh (Nat.le_refl _)) rfl⟩
abbrev rcDictP (K : PySem.W.Frag) : List V → Hp → VK → Prop := fun xs H Q => ∃ (a : Addr) (ps : List Addr) (kvs : List (Key × V)), xs = [.ref a] ∧ SqL K H a (ps.map V.ref) ∧ Paired (fun p kv => SqT K H p [kV kv.1, kv.2]) ps kvs ∧
    ∀ p, H p = none → Q (.ref p) (upd H p (.dK (mergeK [] kvs)))
section
variable {H0 : Hp} {x : List Addr} {ss : SS} {te : TE} {ta : TA} {K : PySem.W.Frag} {u : TS} {D : Ends}
theorem rc_tupZ {F : List Stf} : RCl (rTupZ K) [.im (.list (F.map fD))] (fun z => z = fzTy F) := fun M vs H T h Q q => by
  obtain ⟨v, rfl, h'⟩ := hold1 h
  have h' : Dq (hid M H) v (.list (F.map fD)) := h'
  cases h' with
  | lst h1 h2 => exact ⟨_, _, rfl, .inl (.inl (hid_some h1).2), fun l o hl hd => q _ _ _ rfl (same_new hl) (fz_of ⟨l, o, _, rfl, hid_new T hl, hd, dps_mono (hid_mono (same_new hl)) h2⟩)⟩
theorem ev_tupZ {F : List Stf} (h : EvD H0 x ss te (.im (.list (F.map fD)))) : EvD H0 x ss (tCB (rTupZ K) (tCons te tNil)) (fzTy F) := ev_cbD (ea_cons h ea_nil) rc_tupZ
/-- dict(..) of pairs of a name and data -/
theorem putK_new {kvs : List (Key × V)} {k : Key} {v : V} (h : k ∉ kvs.map (·.1)) : putK kvs k v = kvs ++ [(k, v)] := by
  unfold putK
  rw [if_neg]
  intro e
  rw [List.any_eq_true] at e
  obtain ⟨q, hq, e⟩ := e
  exact h (List.mem_map.mpr ⟨q, hq, of_decide_eq_true e⟩)
theorem mergeK_nodup : ∀ {more kvs : List (Key × V)}, ((kvs ++ more).map (·.1)).Nodup → mergeK kvs more = kvs ++ more
  | [], kvs, _ => (List.append_nil _).symm
  | q :: more, kvs, h => by
    have e : kvs ++ q :: more = (kvs ++ [q]) ++ more := by simp
    have hn : q.1 ∉ kvs.map (·.1) := fun m => by
      rw [List.map_append, List.nodup_append] at h
      exact h.2.2 q.1 m q.1 (by rw [List.map_cons]; exact List.mem_cons_self) rfl
    show mergeK (putK kvs q.1 q.2) more = _
    rw [putK_new hn, e]
    exact mergeK_nodup (by rw [← e]; exact h)
theorem prp_of {M : List Addr} {H : Hp} : ∀ {ws : List Addr} {ts : List (Nm × PyData)}, DqAll (hid M H) (ws.map V.ref) (ts.map fun q => .tuple [nD q.1, q.2]) → ∃ kvs : List (Key × V), Paired (fun p kv => SqT K H p [kV kv.1, kv.2]) ws kvs ∧ KvOk (hid M H) kvs (ts.map fun q => (kN q.1, q.2))
  | [], [], _ => ⟨[], .nil, trivial⟩
  | w :: ws, t :: ts, h => by
    rw [List.map_cons, List.map_cons] at h
    cases h with
    | cons a r =>
      obtain ⟨kvs, h1, h2⟩ := prp_of r
      cases a with
      | tup a1 a2 =>
        cases a2 with
        | @cons v1 _ _ _ b1 b2 =>
          cases b2 with
          | @cons v2 _ _ _ b2 b3 =>
            cases b3
            rw [dq_k b1] at a1
            exact ⟨(kN t.1, v2) :: kvs, .cons (.inl (.inl (hid_some a1).2)) h1, rfl, b2, h2⟩
  | [], _ :: _, h => by
    rw [List.map_nil, List.map_cons] at h
    cases h
  | _ :: _, [], h => by
    rw [List.map_nil, List.map_cons] at h
    cases h
theorem em_dictP {ts : List (Nm × PyData)} (h : EvD H0 x ss te (.im (.list (ts.map fun q : Nm × PyData => .tuple [nD q.1, q.2])))) (hn : (ts.map (·.1)).Nodup) : EvM H0 x ss (tCB (rcDictP K) (tCons te tNil)) (fun m => m = .dK (ts.map fun q : Nm × PyData => (kN q.1, q.2))) := fun σ H S Q q =>
  h σ H S _ fun t v H1 p S1 e r => by
    subst p
    have r : Dq _ v (.list (ts.map fun q => .tuple [nD q.1, q.2])) := r
    cases r with
    | lst r1 r2 =>
      rename_i a vs
      obtain ⟨ws, rfl⟩ := refs_of (f := fun _ => True) (fun d m => by obtain ⟨q, _, rfl⟩ := List.mem_map.mp m; exact ⟨_, rfl⟩) r2
      obtain ⟨kvs, h1, h2⟩ := prp_of (K := K) r2
      have hk : ((([] : List (Key × V)) ++ kvs).map fun q => q.1).Nodup := by
        rw [List.nil_append, kv_keys h2]
        have e0 : (ts.map fun q => (kN q.1, q.2)).map (·.1) = (ts.map (·.1)).map kN := by
          rw [List.map_map, List.map_map]
          rfl
        rw [e0]
        exact (List.pairwise_map).mpr (List.Pairwise.imp (fun hne he => hne (kN_inj he)) hn)
      refine ⟨a, ws, kvs, rfl, .inl (.inl (hid_some r1).2), h1, fun p hp => ?_⟩
      rw [mergeK_nodup hk, List.nil_append]
      obtain ⟨S2, e2⟩ := S1.mine (m := .dK []) (o := .dK []) hp fun M => ⟨[], upd_same, trivial⟩
      have S3 := (S2.chg (ss := ss) (m' := .dK (ts.map fun q => (kN q.1, q.2))) (o := .dK kvs) ⟨kvs, upd_same, kv_mono e2 h2⟩).1
      rw [upd_upd] at S3
      refine q p _ _ rfl ?_ S3 (e.trans (hid_mono (same_new hp)))
      cases z : H p with
      | none => rfl
      | some o =>
        by_cases hb : p ∈ ss.bm
        · obtain ⟨c, hc⟩ := bm_iff.mp hb
          obtain ⟨⟨_, s0, s1, s2, cs, e3, _⟩, _⟩ := S1.bg p c hc
          rw [e3] at hp
          cases hp
        · have h2 := e p o (by rw [hid_out hb]; exact z)
          rw [(hid_some h2).2] at hp
          cases hp
/-- a, b = (.., ..) by a tuple that is made -/
theorem tr_asgTup2 {i j : Nat} {Ψ : List Ty → List (Addr × MO) → Prop} (hi : i < ss.g.length) (hj : j < ss.g.length) (h : EvAm H0 x ss ta Ψ) (k : ∀ ts l, Ψ ts l → ∃ t1 t2, ts = [t1, t2] ∧ Tr H0 x ⟨(ss.g.set i t1).set j t2, l ++ ss.l, ss.b⟩ u D) : Tr H0 x ss (tSeq (tAsg (tTup ta) (gTup K 2 (gCons (gName i) (gCons (gName j) gNil)))) u) D := fun σ H S =>
  h σ H S _ fun ts l vs H1 p S1 e r => by
    obtain ⟨t1, t2, rfl, kk⟩ := k ts l p
    obtain ⟨v, w, rfl, h1, h2⟩ := hold2 r
    refine ⟨by show 2 ≤ sizeLine; decide, fun q hq => ⟨q, [v, w], rfl, .inl (.inl upd_same), rfl, v, [w], rfl, w, [], rfl, rfl, kk _ _ ?_⟩⟩
    have e2 := same_new (o := .tup [v, w]) hq
    have S2 := (S1.pure e2).st (i := i) (t := t1) hi (Ty.mono (hid_mono e2) h1)
    exact S2.st (i := j) (t := t2) (by show j < (ss.g.set i t1).length; rw [List.length_set]; exact hj) (Ty.mono (hid_mono e2) h2)
end
end Sx
set_option Elab.async false
set_option linter.all false
set_option maxRecDepth 100000
set_option maxHeartbeats 1000000
/-! A dict of mine walked by its values while it is locked. -/
namespace Sx
open PySem PySem.Spec PyProof.Rows L2
section
variable {H0 H H1 H2 : Hp} {x : List Addr} {ss : SS} {σ : L2.St} {g : List Ty} {L : List (Addr × MO)} {b : Option (Addr × Addr)} {p : Addr} {i : Nat} {te : TE}
theorem Sat.step2 (S : Sat H0 x ss σ H) (e : Fr ss H H2) (fr : ∀ a o, a ∉ ss.bm → H0 a = some o → H2 a = some o) (bg : ∀ p c, ss.b = some (p, c) → BagAt H2 p c) : Sat H0 x ss σ H2 where
  fr := fr
  ls := fun q hq => by
    obtain ⟨h1, h2⟩ := S.ls q hq
    refine ⟨h1, MO.mono (Fr.m e) ?_ h2⟩
    cases z : H q.1 with
    | none => exact absurd z (MO.some h2)
    | some o =>
      refine (hid_some (e q.1 o ?_)).2
      rw [hid_out fun m => ?_]
      · exact z
      · obtain ⟨c, hc⟩ := bm_iff.mp m
        exact (S.bg _ c hc).2.1 h1
  nd := S.nd
  bg := fun p c h => ⟨bg p c h, (S.bg p c h).2⟩
  tx := S.tx
  vr := fun i t h => by
    rcases S.vr i t h with z | ⟨v, h1, h2⟩
    · exact .inl z
    · exact .inr ⟨v, h1, Ty.mono (Fr.m e) h2⟩
  ln := S.ln
theorem src_vals {od : Obj} {vs : List (Key × V)} {kvs : List (Key × PyData)} (hp : H1 p = some (.frz od (.dK vs))) (hpM : p ∉ ss.M x) (hi : ss.g[i]? = some (.rf p)) (hk : KvOk (hid (ss.M x) H1) vs kvs) :
    Src H1 x ss (iVals (tVar i)) kvs.length (fun j => .im ((kvs.map fun q => q.2).getD j .none)) := fun σ H S R r => by
  rcases S.vr i _ hi with z | ⟨v, h1, h2⟩
  · cases z
  have h2 : v = .ref p := h2
  subst h2
  have hH : H p = some (.frz od (.dK vs)) := S.fr p _ (fun m => hpM (List.mem_append_right _ (List.mem_append_left _ m))) hp
  have hl : vs.length = kvs.length := kv_len hk
  have hs : Same (hid (ss.M x) H1) (hid (ss.M x) H) := fun a o h => by
    obtain ⟨n, h⟩ := hid_some h
    rw [hid_out n]
    exact S.fr a o (fun m => n (List.mem_append_right _ (List.mem_append_left _ m))) h
  refine ⟨.ref p, h1, p, od, vs, rfl, hH, ?_⟩
  have W : Walk (Itd p od vs) kvs.length (fun H2 => Same (hid (ss.M x) H) H2) (fun i H2 z H3 => H3 = H2 ∧ ∃ k, vs[i]? = some (k, z)) := by
    rw [← hl]
    refine walk_values.mono (fun H2 g => g p _ ?_) fun i H2 z H3 _ _ y => y
    rw [hid_out hpM]
    exact hH
  refine r (Itd p od vs) H _ S (Same.refl _) W fun j H2 v H3 M2 hj s3 T y => ?_
  obtain ⟨rfl, k, hv⟩ := y
  refine ⟨Same.refl _, ?_⟩
  have key : ∀ {vs : List (Key × V)} {kvs : List (Key × PyData)} {j : Nat} {k : Key} {v : V}, KvOk (hid (ss.M x) H1) vs kvs → vs[j]? = some (k, v) → ∃ d, (kvs.map fun q => q.2)[j]? = some d ∧ Dq (hid (ss.M x) H1) v d := by
    intro vs
    induction vs with
    | nil => intro _ _ _ _ _ h; simp at h
    | cons a vs ih =>
      intro kvs j k v h hv
      cases kvs with
      | nil => exact h.elim
      | cons q kvs =>
        cases j with
        | zero =>
          have hv : a = (k, v) := by simpa using hv
          subst hv
          exact ⟨q.2, rfl, h.2.1⟩
        | succ j =>
          obtain ⟨d, h1, h2⟩ := ih h.2.2 (by simpa using hv)
          exact ⟨d, by simpa using h1, h2⟩
  obtain ⟨d, e1, e2⟩ := key hk hv
  show Dq _ v ((kvs.map fun q => q.2).getD j .none)
  rw [List.getD_eq_getElem?_getD, e1]
  exact dp_mono (hs.trans s3) e2
theorem ev_lockI {kvs : List (Key × PyData)} {n : Int} (h : ∀ (H1 : Hp) (od : Obj) (vs : List (Key × V)), H1 p = some (.frz od (.dK vs)) → p ∉ (⟨g, L, b⟩ : SS).M x → KvOk (hid ((⟨g, L, b⟩ : SS).M x) H1) vs kvs → EvD H1 x ⟨g, L, b⟩ te (.im (.int n))) :
    EvD H0 x ⟨g, (p, .dK kvs) :: L, b⟩ (tLockE te) (.im (.int n)) := fun σ H S Q q => by
  obtain ⟨h0, vs, hp, hk⟩ := S.ls (p, .dK kvs) List.mem_cons_self
  have hp : H p = some (.dK vs) := hp
  have h0 : H0 p = none := h0
  have nd : (p :: L.map (·.1)).Nodup := S.nd
  have hpM : p ∉ (⟨g, L, b⟩ : SS).M x := fun m => by
    rcases List.mem_append.mp m with m | m
    · exact (List.nodup_cons.mp nd).1 m
    · rcases List.mem_append.mp m with m | m
      · obtain ⟨c, hc⟩ := bm_iff.mp m
        exact (S.bg p c hc).2.1 h0
      · obtain ⟨o, e, _⟩ := S.tx p m
        rw [h0] at e
        cases e
  refine ⟨p, .dK vs, hp, True.intro, fun od => ?_⟩
  obtain ⟨S2, e2⟩ := Sat.lose (ss := ⟨g, L, b⟩) (o := .frz od (.dK vs)) S
  obtain ⟨S3, B⟩ := S2.now
  have hb : p ∉ (⟨g, L, b⟩ : SS).bm := fun m => hpM (List.mem_append_right _ (List.mem_append_left _ m))
  have hL : p ∉ L.map (·.1) := (List.nodup_cons.mp nd).1
  have hH1 : hid (L.map (·.1)) (upd H p (.frz od (.dK vs))) p = some (.frz od (.dK vs)) := by
    rw [hid_out hL]
    exact upd_same
  have hk2 : KvOk (hid ((⟨g, L, b⟩ : SS).M x) (hid (L.map (·.1)) (upd H p (.frz od (.dK vs))))) vs kvs := kv_mono (fun a o ha => by
    obtain ⟨n1, h3⟩ := hid_some ha
    have h4 := e2 a o ha
    obtain ⟨n4, h4⟩ := hid_some h4
    rw [hid_out n4, hid_out fun m => n4 (List.mem_append_left _ m)]
    exact h4) hk
  refine h _ od vs hH1 hpM hk2 σ _ S3 _ fun t v H' pt S4 e4 r4 => ?_
  subst pt
  have hH' : H' p = some (.frz od (.dK vs)) := S4.fr p _ hb hH1
  refine ⟨hH', ?_⟩
  have keep : ∀ a o, a ∉ (⟨g, L, b⟩ : SS).bm → H a = some o → upd H' p (.dK vs) a = some o := fun a o n ha => by
    by_cases z : a = p
    · rw [z, upd_same]
      rw [z, hp] at ha
      exact ha
    · rw [upd_ne z]
      have h5 : hid (⟨g, L, b⟩ : SS).bm (upd H p (.frz od (.dK vs))) a = some o := by
        rw [hid_out n, upd_ne z]
        exact ha
      exact (hid_some (e4 a o h5)).2
  have F : Fr (⟨g, (p, .dK kvs) :: L, b⟩ : SS) H (upd H' p (.dK vs)) := fun a o ha => by
    obtain ⟨n, ha⟩ := hid_some ha
    rw [hid_out n]
    exact keep a o n ha
  have S5 : Sat H0 x ⟨g, (p, .dK kvs) :: L, b⟩ σ (upd H' p (.dK vs)) := S.step2 F (fun a o n ha => keep a o n (S.fr a o n ha)) fun p2 c hc => by
    obtain ⟨⟨nb, s0, s1, s2, cs, f1, f2, r⟩, _⟩ := S4.bg p2 c hc
    obtain ⟨_, g1, g2⟩ := S.bg p2 c hc
    refine ⟨nb, s0, s1, s2, cs, ?_, ?_, r⟩
    · rw [upd_ne fun z => g1 (by rw [z]; exact h0)]
      exact f1
    · rw [upd_ne fun z => g2 (by rw [z]; exact h0)]
      exact f2
  cases r4
  exact q _ _ _ rfl S5 F (.int n)
end
end Sx
set_option Elab.async false
set_option linter.all false
set_option maxRecDepth 100000
set_option maxHeartbeats 2000000
/-! enumerate over a tuple. -/
namespace Sx
open PySem PySem.Spec PyProof.Rows L2
theorem enumNewT (v : Addr) (its : Array Value) :
    Meets (Builtin.«enumerate.__new__» ⟨[.type "enumerate", .ref v], []⟩) (fun _ R t => t.heap.IsTuple v its ∧
      R (.ok (.ret (.ref (t.heap.push { cls := .type "tuple_iterator", data := .fields #[.ref v, .int 0 0] }).objs.size)))
        { t with heap := (t.heap.push { cls := .type "tuple_iterator", data := .fields #[.ref v, .int 0 0] }).push { cls := .type "enumerate", data := .fields #[.none, .bool false, .ref t.heap.objs.size, rawInt 0, .none, .none] } }) :=
  .of_wp fun prog w A R t hh => by
    obtain ⟨h0, gs, ds, tk, os⟩ := t
    obtain ⟨hv, hR⟩ := hh
    have sub := sub_enumerate
    have go : ∀ {A' : Around} {E Q : Value → Shared → Prop}, Q (.ref h0.objs.size) ⟨h0.push { cls := .type "tuple_iterator", data := .fields #[.ref v, .int 0 0] }, gs, ds, tk, os⟩ → wpAny (model prog w) A' (pyIter (.ref v)) Q E ⟨h0, gs, ds, tk, os⟩ :=
      fun q => (begins_tuple v its).iter prog w _ _ ⟨h0, gs, ds, tk, os⟩ _ hv q
    wp_walk using go
    refine wpAny_stack_any fun stk => wpAny_pure ?_
    split
    · rename_i c _ _ _ _ _
      cases (c == Value.type "enumerate") <;>
      · wp_walk using go
        exact ⟨_, rfl, hR⟩
    · wp_walk using go
      exact ⟨_, rfl, hR⟩
section
variable {prog : Program} {w : World} {A : Around} {E : Value → Shared → Prop} {t : Shared}
theorem call_enumT {v : Addr} {its : Array Value} {Q : Value → Shared → Prop} (hv : t.heap.IsTuple v its)
    (k : ∀ h2, IsEnum h2 (t.heap.objs.size + 1) t.heap.objs.size 0 .none → h2.IsTupleIter t.heap.objs.size v 0 → h2.objs.size = t.heap.objs.size + 2 → (∀ c o, t.heap.get? c = some o → h2.get? c = some o) → Q (.ref (t.heap.objs.size + 1)) { t with heap := h2 }) :
    wpAny (model prog w) A (call (.type "enumerate") [.ref v]) Q E t := by
  generalize hi : ({ cls := .type "tuple_iterator", data := .fields #[.ref v, .int 0 0] } : Obj) = oi
  have new := enumNewT v its
  rw [hi] at new
  refine callType_new F.called_enumerate (by decide) (F.typeCall_enumerate_1 _) (F.newCall_enumerate_1 _) (fun obj => F.args_object_init_2 obj _) F.entry_enumerate_new new ⟨hv, ?_⟩
  have sz : (t.heap.push oi).objs.size = t.heap.objs.size + 1 := Heap.size_push ..
  show _ ∧ _
  rw [sz]
  generalize hd : ({ cls := .type "enumerate", data := .fields #[.none, .bool false, .ref t.heap.objs.size, rawInt 0, .none, .none] } : Obj) = oe
  have en : ((t.heap.push oi).push oe).get? (t.heap.objs.size + 1) = some oe := by
    have := Heap.get?_push_size (t.heap.push oi) (o := oe) (by rw [← hd]; rfl)
    rwa [sz] at this
  have it0 : ((t.heap.push oi).push oe).get? t.heap.objs.size = some oi := Heap.get?_push_of_some _ (Heap.get?_push_size _ (by rw [← hi]; rfl))
  refine ⟨⟨_, en, by rw [← hd]⟩, k _ (by rw [← hd] at en ⊢; exact en) ⟨_, it0, by rw [← hi], by rw [← hi]; rfl⟩ (by rw [Heap.size_push, sz]) fun c o e => Heap.get?_push_of_some _ (Heap.get?_push_of_some _ e)⟩
end
/-- the tuple at a, each item in a new pair -/
def IteT (K : PySem.W.Frag) (a : Addr) : It where
  go := fun i H => ∃ (xs : List V) (x : V), SqT K H a xs ∧ xs[i]? = some x
  yld := fun i H v H' => ∃ T x, v = .ref T ∧ H T = none ∧ H' = upd H T (.tup [.int (i : Nat), x]) ∧ ∀ xs, SqT K H a xs → xs[i]? = some x
  stop := fun i H => ∃ xs : List V, SqT K H a xs ∧ xs.length = i
theorem walk_enumT {K : PySem.W.Frag} {a : Addr} {xs : List V} : Walk (IteT K a) xs.length (fun H => SqT K H a xs) (YPair (fun i => some (.int (i : Nat))) (fun i => xs[i]?)) :=
  ⟨fun i _ hi q => ⟨xs, xs[i], q, List.getElem?_eq_getElem hi⟩, fun _ q => ⟨xs, q, rfl⟩, fun i H v H' _ q ⟨T, x, e1, e2, e3, e4⟩ => ⟨T, .int (i : Nat), x, e1, e2, e3, rfl, e4 xs q⟩⟩
theorem tup_ne_iter {h : Heap} {a b : Addr} {its : Array Value} {p : Addr} {i : Nat} (ha : h.IsTuple a its) (hb : h.IsTupleIter b p i) : a ≠ b := fun e => by
  obtain ⟨o, e1, c1, _⟩ := ha
  obtain ⟨o2, e2, c2, _⟩ := hb
  rw [e, e2] at e1
  cases e1
  rw [c1] at c2
  exact absurd c2 (by decide)
theorem tup_ne_enum {h : Heap} {a b it : Addr} {its : Array Value} {i : Int} {old : Value} (ha : h.IsTuple a its) (hb : IsEnum h b it i old) : a ≠ b := fun e => by
  obtain ⟨o, e1, c1, _⟩ := ha
  have hb : h.get? b = some _ := hb
  rw [e, hb] at e1
  cases e1
  have c1 : Value.type "enumerate" = Value.type "tuple" := c1
  exact absurd c1 (by decide)
theorem turn_enumT {P : Program} {w : World} {K : PySem.W.Frag} {elts : List Expr} {kk : Nat} {tpos : Pos} (a e it : Addr) :
    Turn P w K (.Tuple elts kk tpos) (IteT K a) [e, it] e (fun i h => (∃ old, IsEnum h e it ((i : Nat) : Int) old) ∧ h.IsTupleIter it a i ∧ e ≠ it) where
  mem := List.mem_cons_self
  obj := fun i h st b hb => by
    obtain ⟨⟨old, he⟩, ⟨o, ho, hc, hd⟩, _⟩ := st
    rcases List.mem_cons.mp hb with z | z
    · subst z
      exact ⟨_, he, fun v q => nomatch q⟩
    · exact ⟨o, by rw [List.mem_singleton.mp z]; exact ho, fun v q => by rw [hd] at q; cases q⟩
  keep := fun i h h' st k => by
    obtain ⟨⟨old, he⟩, ⟨o, ho, r⟩, n⟩ := st
    exact ⟨⟨old, k e List.mem_cons_self _ he⟩, ⟨o, k it (List.mem_cons_of_mem _ List.mem_cons_self) _ ho, r⟩, n⟩
  item := by
    intro X hP hw hK calm i pn s σ H E I off st ⟨xs, x, hq, hx⟩
    subst hP hw hK
    obtain ⟨⟨old, he⟩, hi, ne⟩ := st
    obtain ⟨its, rv, px, lx⟩ := I.tuple hq
    have pt : s.heap.IsTuple a its.toArray := px
    have D := Draws.tuple (prog := X.prog) (w := X.w) (A := X.A.in1) (I.ok.hd calm) it a (tup_ne_iter pt hi) its.toArray
    have lt : i < its.toArray.size := by
      have := rv.length
      have := (List.getElem?_eq_some_iff.mp hx).1
      rw [List.size_toArray]
      omega
    have hel : e < s.heap.objs.size := Heap.lt_size he
    have hil : it < s.heap.objs.size := by
      obtain ⟨_, q, _⟩ := hi
      exact Heap.lt_size q
    refine wpAny_pyNext_enum_itemD D he ⟨hi, pt⟩ lt ne (fun m => ?_) fun u h2 tk hu ho ⟨hi2, _⟩ hT sz kept => ?_
    · rcases List.mem_cons.mp m with z | z
      · exact ne z
      · exact tup_ne_enum pt he (List.mem_singleton.mp z).symm
    obtain ⟨u2, hu2, ru⟩ := rv.get hx
    have hu : its[i]? = some u := by simpa using hu
    rw [hu] at hu2
    cases hu2
    refine ⟨_, rfl, wpAny_letOwnedTupleGo_enum (s := { s with heap := h2, toks := tk + 1 }) ho fun h3 he3 sb => ?_⟩
    have hT3 : h3.get? s.heap.objs.size = some { cls := .type "tuple", data := .seq #[.int i tk, u] } := (sb.2 _ (Nat.ne_of_gt hel)).trans hT
    have mk : ObjOk X.prog X.w (upd H s.heap.objs.size (.tup [.int (i : Nat), x])) h3 s.heap.objs.size (.tup [.int (i : Nat), x]) := ⟨by show 2 ≤ sizeLine; decide, [.int i tk, u], .cons ⟨_, rfl⟩ (.cons ru .nil), ⟨_, hT3, rfl, _, rfl⟩⟩
    have out : ∀ {b : Addr}, b ∉ [e, it] → b ≠ e ∧ b ≠ it := fun n => by simpa using n
    have I3 : Inv X pn σ (upd H s.heap.objs.size (.tup [.int (i : Nat), x])) { s with heap := h3, toks := tk + 1 } := I.turnedNew (ch := [e, it]) (fun b o nb q => (sb.2 b (out nb).1).trans (kept b o (out nb).1 (out nb).2 q)) off (Nat.le_refl _) mk
    refine ⟨.ref s.heap.objs.size, _, I3, rfl, ⟨_, x, rfl, I.hok.fresh (Nat.le_refl _), rfl, fun ys hy => by rw [I.tuple_inj hy hq]; exact hx⟩, ⟨⟨u, ?_⟩, hi2.at fun o q => (sb.2 it ne.symm).trans q, ne⟩, fun b hb => ?_⟩
    · rw [show ((i + 1 : Nat) : Int) = (i : Int) + 1 from by omega]
      exact he3
    · have lb : b < s.heap.objs.size := by
        rcases List.mem_cons.mp hb with z | z
        · rw [z]
          exact hel
        · rw [List.mem_singleton.mp z]
          exact hil
      rw [upd_ne (Nat.ne_of_lt lb)]
      exact (off b hb).1
  done := by
    intro X hP hw hK calm i pn s σ H E I off st ⟨xs, hq, hx⟩
    subst hP hw hK
    obtain ⟨⟨old, he⟩, hi, ne⟩ := st
    obtain ⟨its, rv, px, lx⟩ := I.tuple hq
    have pt : s.heap.IsTuple a its.toArray := px
    have D := Draws.tuple (prog := X.prog) (w := X.w) (A := X.A.in1) (I.ok.hd calm) it a (tup_ne_iter pt hi) its.toArray
    obtain ⟨f0, f1, f2, f3, f4, f5⟩ := off it (List.mem_cons_of_mem _ List.mem_cons_self)
    have en : its.toArray.size = i := by
      have := rv.length
      rw [List.size_toArray]
      omega
    refine wpAny_pyNext_enum_endD D he ⟨by rw [en]; exact hi, pt⟩ fun h2 eb => ⟨rfl, I.turned (t' := s.toks) (fun b o nb q => eb b o nb q) f0 f1 f3 f4 f5⟩
  self := fun A i s Q E st h => by
    obtain ⟨⟨_, he⟩, _⟩ := st
    exact wpAny_pyIter_enum he h
def iEnumT (K : PySem.W.Frag) (ta : TA) : TI := fun σ H R => ta σ H fun vs H1 => ∃ a xs, vs = [.ref a] ∧ SqT K H1 a xs ∧ R (IteT K a) H1
theorem pi_enumT {X : Cx} {e : Expr} {ta : TA} {p pos tpos : Pos} {elts : List Expr} {kk : Nat} (hg : Gl X "enumerate") (hm : X.mg "enumerate" = none) (ha : PA X [e] ta) (hs : starEach [e] X.env = [(false, eval e X.env)] := by rfl) :
    PI X (.Tuple elts kk tpos) (.Call (.Name "enumerate" p) [e] [] pos) (iEnumT X.K ta) := by
  constructor
  intro pn s0 σ H R I h
  refine Call_ (ld_blt I hg hm boot_enumerate (PyProof.Rows.callWith_type1 (thn (ha.run pos pn s0 σ H _ I h) fun us s1 ⟨vs, H1, I1, r1, w1⟩ => ?_) hs rfl))
  obtain ⟨a, xs, rfl, hq, go⟩ := w1
  rw [Vals.ref1 r1]
  obtain ⟨its, rv, px, _⟩ := I1.tuple hq
  refine call_enumT (show s1.heap.IsTuple a its.toArray from px) fun h2 he hi sz kept => wpAny_pyIter_enum he ?_
  have I2 : Inv X pn σ H1 { s1 with heap := h2 } := I1.kept (t' := s1.toks) kept
  refine ⟨s1.heap.objs.size + 1, [s1.heap.objs.size + 1, s1.heap.objs.size], _, _, H1, rfl, I2, turn_enumT a (s1.heap.objs.size + 1) s1.heap.objs.size, ⟨⟨.none, he⟩, hi, Nat.succ_ne_self _⟩, fun b hb => ?_, go⟩
  have le : s1.heap.objs.size ≤ b := by
    rcases List.mem_cons.mp hb with z | z
    · rw [z]
      exact Nat.le_succ _
    · rw [List.mem_singleton.mp z]
      exact Nat.le_refl _
  exact I1.fpOk le (I1.hok.fresh le)
section
variable {H0 : Hp} {x : List Addr} {ss : SS} {ta : TA} {K : PySem.W.Frag}
theorem src_enumT {ds : List PyData} (h : EaD H0 x ss ta [.im (.tuple ds)]) : Src H0 x ss (iEnumT K ta) ds.length (fun i => .im (.tuple [.int (i : Nat), ds.getD i .none])) := fun σ H S R r =>
  h σ H S _ fun ts vs H1 p S1 e q => by
    subst p
    obtain ⟨v, rfl, q0⟩ := hold1 q
    have q0 : Dq _ v (.tuple ds) := q0
    cases q0 with
    | tup q1 q2 =>
      rename_i a us
      have hn := dps_len q2
      refine ⟨a, us, rfl, .inl (.inl (hid_some q1).2), ?_⟩
      refine r (IteT K a) H1 (YPair (fun i => some (.int (i : Nat))) (fun i => us[i]?)) S1 e ?_ fun i H2 v H3 M2 hi s3 T y => ?_
      · rw [← hn]
        exact (walk_enumT (K := K) (a := a) (xs := us)).mono (fun H2 g => .inl (.inl (g _ _ q1))) fun i H2 z H3 _ _ y => y
      · obtain ⟨T', y1, y2, rfl, hT, rfl, e1, e2⟩ := y
        obtain ⟨d, h1, h2⟩ := dps_get q2 e2
        cases e1
        refine ⟨same_new hT, .tup (hid_new T hT) (.cons (.int _) (.cons ?_ .nil))⟩
        rw [List.getD_eq_getElem?_getD, h1]
        exact dp_mono (s3.trans (hid_mono (same_new hT))) h2
end
end Sx
set_option Elab.async false
set_option linter.all false
set_option maxRecDepth 100000
set_option maxHeartbeats 4000000
namespace Sx
open PySem PySem.Spec PyProof.Rows L2
open C8 (Cal pe_c)
/-! ### the text by places -/
def topS (i : Nat) : Stmt := PySem.Challenge.pw_staffhome_k44_whole_more_never_harms_one.main.body.getD i (.Pass ⟨0, 0, 0, 0⟩)
abbrev dt (t : Ty) : Ty → Prop := fun u => u = t
/-- a body keeps its promise, wherever its def stands -/
def Bod (P : Program) (w : World) (K : PySem.W.Frag) (mg : Str → Option Value) (base : Heap) (N : List Str) (x : Str) (st : Stmt) (k : Nat) (sp : Sp) : Prop :=
  ∀ (f : Addr) (cdv : Value) (A : Around) (outer : List Env) (s : Shared) (H : Hp) (vs : List V) (Q : VK) (E : XK), Room k (A.deeper (envOfC x (defScope st) s.heap.objs.size f cdv)) → sp vs H Q E →
      ∃ t, PSs (cxOf CX0 P w K mg base N x (defScope st) f cdv A outer s H E).nox (defBody st) t ∧ t { nx := fun _ H' => Q .non H', rt := Q } (start N vs) H
/-! ### searches turn by turn -/
theorem take_next {α : Type} {as : List α} {i : Nat} {a : α} (h : as[i]? = some a) : as.take (i + 1) = as.take i ++ [a] := by
  rw [List.take_add_one, h]
  rfl
theorem find_next {α : Type} {p : α → Bool} {as : List α} {i : Nat} {a : α} (hn : (as.take i).find? p = none) (h : as[i]? = some a) (e : p a = false) : (as.take (i + 1)).find? p = none := by
  rw [take_next h, List.find?_append, hn, List.find?_cons_of_neg (by rw [e]; exact Bool.false_ne_true)]
  rfl
theorem find_at {α : Type} {p : α → Bool} {as : List α} {i : Nat} {a : α} (hn : (as.take i).find? p = none) (h : as[i]? = some a) (e : p a = true) : as.find? p = some a := by
  have h1 : as = as.take i ++ a :: as.drop (i + 1) := by
    obtain ⟨hi, e1⟩ := List.getElem?_eq_some_iff.mp h
    rw [← e1, ← List.drop_eq_getElem_cons hi, List.take_append_drop]
  rw [h1, List.find?_append, hn, List.find?_cons_of_pos e]
  rfl
/-! ### what the defs reckon -/
def keyOf (a b : Nm) : Key2 := if sLt a.1 b.1 = true then (a, b) else (b, a)
def secOf (L : Lin) (k : Key2) : Option Sec := L.2.find? fun s => decide ((s.1, s.2.1) = k)
abbrev sp_key_of : Sp := spF fun ts Φ => ∃ a b : Nm, ts = [.im (nD a), .im (nD b)] ∧ Φ = dt (.im (kD (keyOf a b)))
abbrev sp_section : Sp := spF fun ts Φ => ∃ (L : Lin) (a b : Nm), ts = [.im (lD L), .im (nD a), .im (nD b)] ∧ Φ = dt (.im (oD cD (secOf L (keyOf a b))))
section
variable {P : Program} {w : World} {K : PySem.W.Frag} {mg : Str → Option Value} {base : Heap}
abbrev s_key_of : Stmt := topS 4
abbrev N_key_of : List Str := ["one", "other"]
theorem sc_key_of : FnScope N_key_of ["one", "other"] (defScope s_key_of) := ⟨rfl, rfl, rfl, by decide +kernel, rfl, by decide +kernel, by decide +kernel⟩
theorem bd_key_of (B : Bl mg)  : Bod P w K mg base N_key_of "key_of" s_key_of 0 sp_key_of := fun f cdv A outer s H vs Q E hr h => by
  have hu := hu_of hr
  obtain ⟨x, ts, Φ, ⟨a, b, rfl, rfl⟩, T, hh, q⟩ := h
  refine ⟨_, (pss_cons (ps_ret (pe_ifExp (pt_cmpR op_ltT2 (pv 0) (pv 1) (nomark _)) (pe_tup (pa_cons (pv 0) (pa_cons (pv 1) pa_nil))) (pe_tup (pa_cons (pv 1) (pa_cons (pv 0) pa_nil)))))
    pss_nil), ?_⟩
  refine start_F (N := N_key_of) T hh ?_
  refine tr_retR (ret_F q) (Ψ := dt (.im (kD (keyOf a b)))) (ev_if (et_test (ev_opD (ev_var rfl) (ev_var rfl) rd_ltT)) (fun e => ?_) fun e => ?_) fun _ h => h
  · refine (ev_tup2 (ev_var (t := .im (nD a)) rfl) (ev_var (t := .im (nD b)) rfl)).eq ?_
    unfold keyOf
    rw [if_pos e.symm]
    rfl
  · refine (ev_tup2 (ev_var (t := .im (nD b)) rfl) (ev_var (t := .im (nD a)) rfl)).eq ?_
    unfold keyOf
    rw [if_neg (by rw [← e]; exact Bool.false_ne_true)]
    rfl
abbrev s_section : Stmt := topS 5
abbrev N_section : List Str := ["line", "one", "other", "found"]
theorem sc_section : FnScope N_section ["line", "one", "other"] (defScope s_section) := ⟨rfl, rfl, rfl, by decide +kernel, rfl, by decide +kernel, by decide +kernel⟩
theorem bd_section (B : Bl mg) (c_key_of : Cal P w K mg base 1 "key_of" sp_key_of []) : Bod P w K mg base N_section "section" s_section 1 sp_section := fun f cdv A outer s H vs Q E hr h => by
  have hu := hu_of hr
  obtain ⟨x, ts, Φ, ⟨L, a, b, rfl, rfl⟩, T, hh, q⟩ := h
  refine ⟨_, (pss_cons (ps_for PassesOwn.never rfl (pi_tup (pe_ix ix_tup (pv 0) pe_int (fun _ _ => rfl))) (pg_name (i := 3) sc_section.nd rfl (Or.inl rfl))
      (pss_cons (ps_if (pt_cmpR (op_eqD hr.units) (pe_slice sl_tupA (pv 3) po_none (po_some pe_int)) (pe_c c_key_of hr (by decide) (by rfl) (pa_cons (pv 1) (pa_cons (pv 2) pa_nil))) (nomark _))
        (pss_cons (ps_ret (pv 3))
        pss_nil)
        pss_nil)
      pss_nil))
    (pss_cons (ps_ret pe_non)
    pss_nil)), ?_⟩
  refine start_F (N := N_section) T hh ?_
  have R := ret_F q
  refine tr_forE (srcT (as := L.2) (ev_ixT (ev_var (t := .im (lD L)) rfl))) (fun i s => ∃ t, s = ⟨[.im (lD L), .im (nD a), .im (nD b), t], [], none⟩ ∧ (L.2.take i).find? (fun s => decide ((s.1, s.2.1) = keyOf a b)) = none) ⟨.any, rfl, rfl⟩ (fun _ _ ⟨_, e, _⟩ => by rw [e]) ?_ ?_
  · rintro H1 Bs i c _ he ⟨t, rfl, hn⟩
    refine ⟨_, _, bd_name (by show 3 < 4; decide), ?_⟩
    refine tr_ifD (et_test (ev_eqE encK (a := (c.1, c.2.1)) (b := keyOf a b) (ev_sl (ev_var (t := .im (cD c)) rfl) eo_no (eo_at ev_int) rs_tup) (ev_c (ts := [.im (nD a), .im (nD b)]) (ea_cons (ev_var rfl) (ea_cons (ev_var rfl) ea_nil)) ⟨a, b, rfl, rfl⟩))) (fun e => ?_) fun e => ?_
    · refine tr_retR (R.later Bs) (ev_var (t := .im (cD c)) rfl) fun t h => ?_
      subst h
      show Ty.im (cD c) = Ty.im (oD cD (secOf L (keyOf a b)))
      rw [show secOf L (keyOf a b) = some c from find_at hn he e]
      rfl
    · exact tr_next fun σ H S => ⟨_, ⟨_, rfl, find_next hn he e⟩, S⟩
  · rintro _ ⟨t, rfl, hn⟩
    refine tr_retR R ev_non fun t h => ?_
    subst h
    rw [List.take_length] at hn
    show Ty.im .none = Ty.im (oD cD (secOf L (keyOf a b)))
    rw [show secOf L (keyOf a b) = none from hn]
    rfl
end
end Sx
set_option Elab.async false
set_option linter.all false
set_option maxRecDepth 100000
set_option maxHeartbeats 4000000
namespace Sx
open PySem PySem.Spec PyProof.Rows L2
open C8 (Cal pe_c)
/-! ### short forms of statements -/
section
variable {H0 : Hp} {x : List Addr} {ss : SS} {te : TE} {tu tv u : TS} {D : Ends} {t : Ty} {c : TT} {b : Bool}
theorem tr_retE {t' : Ty} {bb : Option (Addr × Addr)} (R : Ret H0 x bb (dt t') D.rt) (h : EvD H0 x ss te t) (e : t = t' := by rfl) (hb : ss.b = bb := by rfl) : Tr H0 x ss (tSeq (tRet te) u) D := tr_retR R h (fun z hz => hz.trans e) hb
theorem tr_end {D0 : Ends} (k : Tr H0 x ss u D0) : Tr H0 x ss tNext { D with nx := u D0 } := k
/-- an if after which one word holds -/
theorem tr_ifJ (I : SS → Prop) (h : EtD H0 x ss c b) (h1 : (∀ s, I s → Tr H0 x s u D) → b = true → Tr H0 x ss tu { D with nx := u D }) (h2 : (∀ s, I s → Tr H0 x s u D) → b = false → Tr H0 x ss tv { D with nx := u D }) (k : ∀ s, I s → Tr H0 x s u D) : Tr H0 x ss (tSeq (tIfS c tu tv) u) D :=
  tr_ifD h (h1 k) (h2 k)
theorem tr_goI {I : SS → Prop} (hD : D.nx = Nx H0 x I) (h : I ss) : Tr H0 x ss tNext D := tr_next fun σ H S => by
  rw [hD]
  exact ⟨_, h, S⟩
end
/-! ### what the defs reckon -/
def keysL (L : Lin) : List Key2 := L.2.map fun s => (s.1, s.2.1)
def sortOf (L : Lin) (k : Key2) : Option Nm := (secOf L (keyOf k.1 k.2)).map fun s => s.2.2
def nbOne (a : Nm) (k : Key2) : List Nm := (if k.1 = a then [k.2] else []) ++ (if k.2 = a then [k.1] else [])
def nbrs (L : Lin) (a : Nm) : List Nm := ((keysL L).flatMap (nbOne a)).mergeSort (leD nD)
def trainOf (Z : Stn) (n : Nm) : Option Trn := Z.2.find? fun t => decide (t.1 = n)
def staffOf (Z : Stn) (k : Key2) : Option Nm := (Z.1.find? fun f => decide (f.1 = k)).map fun f => f.2
abbrev freeN : Nm := ⟨"free", by decide +kernel, by decide +kernel⟩
def openB (L : Lin) (Z : Stn) (ps : List Key2) (a b : Nm) : Bool := (decide (keyOf a b ∈ ps) || decide (sortOf L (keyOf a b) = some freeN)) || decide (staffOf Z (keyOf a b) = some a)
abbrev sp_sort_of : Sp := spF fun ts Φ => ∃ (L : Lin) (k : Key2) (s : Nm), ts = [.im (lD L), .im (kD k)] ∧ sortOf L k = some s ∧ Φ = dt (.im (nD s))
abbrev sp_keys_of : Sp := spF fun ts Φ => ∃ L : Lin, ts = [.im (lD L)] ∧ L.2.length ≤ 100 ∧ Φ = dt (.im (.tuple ((keysL L).map kD)))
abbrev sp_neighbours : Sp := spF fun ts Φ => ∃ (L : Lin) (a : Nm), ts = [.im (lD L), .im (nD a)] ∧ L.2.length ≤ 100 ∧ Φ = dt (.im (sD (nbrs L a)))
abbrev sp_train_of : Sp := spF fun ts Φ => ∃ (Z : Stn) (n : Nm) (t : Trn), ts = [stnTy Z, .im (nD n)] ∧ trainOf Z n = some t ∧ Φ = dt (.im (tD t))
abbrev sp_place_of : Sp := spF fun ts Φ => ∃ (Z : Stn) (n : Nm) (t : Trn), ts = [stnTy Z, .im (nD n)] ∧ trainOf Z n = some t ∧ Φ = dt (.im (nD t.2.1))
abbrev sp_rest_of : Sp := spF fun ts Φ => ∃ (Z : Stn) (n : Nm) (t : Trn), ts = [stnTy Z, .im (nD n)] ∧ trainOf Z n = some t ∧ Φ = dt (.im (sD t.2.2))
abbrev sp_names_of : Sp := spF fun ts Φ => ∃ Z : Stn, ts = [stnTy Z] ∧ Z.2.length ≤ 100 ∧ Φ = dt (.im (sD (Z.2.map (·.1))))
abbrev sp_staff_of : Sp := spF fun ts Φ => ∃ (Z : Stn) (k : Key2), ts = [stnTy Z, .im (kD k)] ∧ Φ = dt (.im (oD nD (staffOf Z k)))
abbrev sp_lies_open : Sp := spF fun ts Φ => ∃ (L : Lin) (Z : Stn) (ps : List Key2) (a b s : Nm), ts = [.im (lD L), stnTy Z, .im (.list (ps.map kD)), .im (nD a), .im (nD b)] ∧ sortOf L (keyOf a b) = some s ∧ Φ = dt (.im (.bool (openB L Z ps a b)))
theorem nbOne_len (a : Nm) (k : Key2) : (nbOne a k).length ≤ 2 := by
  unfold nbOne
  split <;> split <;> simp
theorem flat_len {α β : Type} {f : α → List β} {n : Nat} (h : ∀ a, (f a).length ≤ n) : ∀ l : List α, (l.flatMap f).length ≤ n * l.length
  | [] => by simp
  | a :: l => by
    have h1 := h a
    have h2 := flat_len h l
    rw [List.flatMap_cons, List.length_append, List.length_cons, Nat.mul_add, Nat.mul_one]
    omega
section
variable {P : Program} {w : World} {K : PySem.W.Frag} {mg : Str → Option Value} {base : Heap}
abbrev s_sort_of : Stmt := topS 6
abbrev N_sort_of : List Str := ["line", "key"]
theorem sc_sort_of : FnScope N_sort_of ["line", "key"] (defScope s_sort_of) := ⟨rfl, rfl, rfl, by decide +kernel, rfl, by decide +kernel, by decide +kernel⟩
theorem bd_sort_of (B : Bl mg) (c_section : Cal P w K mg base 2 "section" sp_section []) : Bod P w K mg base N_sort_of "sort_of" s_sort_of 2 sp_sort_of := fun f cdv A outer s H vs Q E hr h => by
  have hu := hu_of hr
  obtain ⟨x, ts, Φ, ⟨L, k, s, rfl, hs, rfl⟩, T, hh, q⟩ := h
  refine ⟨_, (pss_cons (ps_ret (pe_ix ix_tup (pe_c c_section hr (by decide) (by rfl) (pa_cons (pv 0) (pa_cons (pe_ix ix_tup (pv 1) pe_int (fun _ _ => rfl)) (pa_cons (pe_ix ix_tup (pv 1) pe_int (fun _ _ => rfl)) pa_nil)))) pe_int (fun _ _ => rfl)))
    pss_nil), ?_⟩
  refine start_F (N := N_sort_of) T hh ?_
  unfold sortOf at hs
  cases e : secOf L (keyOf k.1 k.2) with
  | none =>
    rw [e] at hs
    cases hs
  | some c =>
    rw [e] at hs
    cases hs
    refine tr_retE (ret_F q) (ev_ixT (ds := [nD c.1, nD c.2.1, nD c.2.2]) (d := nD c.2.2) ((ev_c (ts := [.im (nD k.1), .im (nD k.2)].cons (.im (lD L))) (t := .im (oD cD (secOf L (keyOf k.1 k.2)))) (ea_cons (ev_var rfl) (ea_cons (ev_ixT (ev_var (t := .im (kD k)) rfl)) (ea_cons (ev_ixT (ev_var (t := .im (kD k)) rfl)) ea_nil))) ⟨L, k.1, k.2, rfl, rfl⟩).eq ?_))
    rw [e]
    rfl
abbrev s_keys_of : Stmt := topS 7
abbrev N_keys_of : List Str := ["line", "found"]
theorem sc_keys_of : FnScope N_keys_of ["line"] (defScope s_keys_of) := ⟨rfl, rfl, rfl, by decide +kernel, rfl, by decide +kernel, by decide +kernel⟩
theorem bd_keys_of (B : Bl mg)  : Bod P w K mg base N_keys_of "keys_of" s_keys_of 0 sp_keys_of := fun f cdv A outer s H vs Q E hr h => by
  have hu := hu_of hr
  obtain ⟨x, ts, Φ, ⟨L, rfl, hz, rfl⟩, T, hh, q⟩ := h
  refine ⟨_, (pss_cons (ps_ret (pe_callTy call_tuple_of (by rfl) B.m_tuple (by decide +kernel) (pa_cons (pe_lc (own := [("found", 1)]) (g := (gName 1)) (tt := tYes) (te := (tSl (rSlA K) (tVar 1) tNoPart (tPart (tC (.int 2))))) rfl sc_keys_of.nd (pi_tup (pe_ix ix_tup (pv 0) pe_int (fun _ _ => rfl))) (blkOk_by (own := [("found", 1)]) (N := N_keys_of) (sc := defScope s_keys_of) (by decide +kernel)) (fun _ _ _ _ _ => (pg_name (i := 1) sc_keys_of.nd rfl (Or.inl rfl))) (fun _ _ _ _ _ => pts_nil) (fun _ _ _ _ _ => (pe_slice sl_tupA (pv 1) po_none (po_some pe_int)))) pa_nil)))
    pss_nil), ?_⟩
  refine start_F (N := N_keys_of) T hh ?_
  refine tr_retE (ret_F q) (ev_tupL (ds := (keysL L).map kD) (ev_lcM (as := L.2) (f := cD) (h := kD) (e := fun s => (s.1, s.2.1)) (srcT (ev_ixT (ev_var (t := .im (lD L)) rfl))) (by omega) fun H1 Bs D acc a _ => ⟨_, _, bd_name (by show 1 < 2; decide), by decide, rfl, rfl, ?_⟩))
  exact ev_sl (ev_var (t := .im (cD a)) rfl) eo_no (eo_at ev_int) rs_tup
abbrev s_neighbours : Stmt := topS 8
abbrev N_neighbours : List Str := ["line", "station", "found", "one", "other"]
theorem sc_neighbours : FnScope N_neighbours ["line", "station"] (defScope s_neighbours) := ⟨rfl, rfl, rfl, by decide +kernel, rfl, by decide +kernel, by decide +kernel⟩
theorem bd_neighbours (B : Bl mg) (c_keys_of : Cal P w K mg base 1 "keys_of" sp_keys_of []) : Bod P w K mg base N_neighbours "neighbours" s_neighbours 1 sp_neighbours := fun f cdv A outer s H vs Q E hr h => by
  have hu := hu_of hr
  obtain ⟨x, ts, Φ, ⟨L, a, rfl, hz, rfl⟩, T, hh, q⟩ := h
  refine ⟨_, (pss_cons (ps_set (i := 2) sc_neighbours.nd rfl (Or.inl rfl) (pe_lst pa_nil))
    (pss_cons (ps_for PassesOwn.never rfl (pi_tup (pe_c c_keys_of hr (by decide) (by rfl) (pa_cons (pv 0) pa_nil))) (pg_tup rfl (pgs_cons (pg_name (i := 3) sc_neighbours.nd rfl (Or.inl rfl)) (pgs_cons (pg_name (i := 4) sc_neighbours.nd rfl (Or.inl rfl)) pgs_nil)))
      (pss_cons (ps_if (pt_cmpR (op_eqD hr.units) (pv 3) (pv 1) (nomark _))
        (pss_cons (ps_expr (pe_bm PySem.F.plainAttrs_list PySem.F.slot_list_append PySem.F.type_list_append mt_append (pv 2) (pa_cons (pv 4) pa_nil)))
        pss_nil)
        pss_nil)
      (pss_cons (ps_if (pt_cmpR (op_eqD hr.units) (pv 4) (pv 1) (nomark _))
        (pss_cons (ps_expr (pe_bm PySem.F.plainAttrs_list PySem.F.slot_list_append PySem.F.type_list_append mt_append (pv 2) (pa_cons (pv 3) pa_nil)))
        pss_nil)
        pss_nil)
      pss_nil)))
    (pss_cons (ps_ret (pe_callTy call_tuple_of (by rfl) B.m_tuple (by decide +kernel) (pa_cons (pe_callB (cr_sortD hr.units1) (by rfl) B.m_sorted (by decide +kernel) (pa_cons (pv 2) pa_nil)) pa_nil)))
    pss_nil))), ?_⟩
  refine start_F (N := N_neighbours) T hh ?_
  have R := ret_F q
  refine tr_asgM (by show 2 < 5; decide) em_lst0 fun p m e => ?_
  subst e
  have kl : (keysL L).length ≤ 100 := by
    unfold keysL
    rw [List.length_map]
    exact hz
  refine tr_forE (as := keysL L) (f := kD) (srcT (ev_c (ts := [.im (lD L)]) (ea_cons (ev_var rfl) ea_nil) ⟨L, rfl, hz, rfl⟩)) (fun i s => ∃ t3 t4, s = ⟨[.im (lD L), .im (nD a), .rf p, t3, t4], [(p, .lst ((((keysL L).take i).flatMap (nbOne a)).map nD))], none⟩) ⟨.any, .any, rfl⟩ (fun _ _ ⟨_, _, e⟩ => by rw [e]) ?_ ?_
  · rintro H1 Bs i k _ he ⟨t3, t4, rfl⟩
    refine ⟨_, _, bd_tup (bds_cons (bd_name (by show 3 < 5; decide)) (bds_cons (bd_name (by show 4 < 5; decide)) bds_nil)), ?_⟩
    have hl : (((keysL L).take i).flatMap (nbOne a)).length ≤ 200 := by
      have h1 := flat_len (nbOne_len a) ((keysL L).take i)
      have h2 := List.length_take_le' i (keysL L)
      omega
    have en : ((keysL L).take (i + 1)).flatMap (nbOne a) = ((keysL L).take i).flatMap (nbOne a) ++ nbOne a k := by
      rw [take_next he, List.flatMap_append, List.flatMap_singleton]
    rw [en]
    generalize ((keysL L).take i).flatMap (nbOne a) = acc at hl ⊢
    refine tr_ifJ (fun s => s = ⟨[.im (lD L), .im (nD a), .rf p, .im (nD k.1), .im (nD k.2)], [(p, .lst ((acc ++ if k.1 = a then [k.2] else []).map nD))], none⟩) (et_test (ev_eqE encS (a := k.1) (b := a) (ev_var rfl) (ev_var rfl))) (fun kk e => ?_) (fun kk e => ?_) ?_
    · refine tr_app (ds := acc.map nD) rfl (by rw [List.length_map]; omega) (ev_var (t := .im (nD k.2)) rfl) fun t e2 => ⟨_, e2, kk _ ?_⟩
      rw [if_pos (of_decide_eq_true e), List.map_append]
      rfl
    · refine kk _ ?_
      rw [if_neg (of_decide_eq_false e), List.append_nil]
      rfl
    · rintro _ rfl
      have hl2 : (acc ++ if k.1 = a then [k.2] else []).length ≤ 201 := by
        rw [List.length_append]
        split <;> simp <;> omega
      unfold nbOne
      rw [← List.append_assoc]
      generalize (acc ++ if k.1 = a then [k.2] else []) = acc at hl2 ⊢
      refine tr_ifD (et_test (ev_eqE encS (a := k.2) (b := a) (ev_var rfl) (ev_var rfl))) (fun e => ?_) (fun e => ?_)
      · refine tr_app (ds := acc.map nD) rfl (by rw [List.length_map]; omega) (ev_var (t := .im (nD k.1)) rfl) fun t e2 => ⟨_, e2, tr_next fun σ H S => ⟨_, ⟨.im (nD k.1), .im (nD k.2), rfl⟩, ?_⟩⟩
        rw [if_pos (of_decide_eq_true e), List.map_append]
        exact S
      · refine tr_next fun σ H S => ⟨_, ⟨.im (nD k.1), .im (nD k.2), rfl⟩, ?_⟩
        rw [if_neg (of_decide_eq_false e), List.append_nil]
        exact S
  · rintro _ ⟨t3, t4, rfl⟩
    rw [List.take_length]
    have hl := flat_len (nbOne_len a) (keysL L)
    refine tr_frz (i := 2) rfl (tr_retE R (ev_tupL (ds := (nbrs L a).map nD) (ev_sort srtN encS (as := (keysL L).flatMap (nbOne a)) (ev_var rfl) (by omega))))
abbrev s_train_of : Stmt := topS 12
abbrev N_train_of : List Str := ["standing", "name", "train"]
theorem sc_train_of : FnScope N_train_of ["standing", "name"] (defScope s_train_of) := ⟨rfl, rfl, rfl, by decide +kernel, rfl, by decide +kernel, by decide +kernel⟩
theorem bd_train_of (B : Bl mg)  : Bod P w K mg base N_train_of "train_of" s_train_of 0 sp_train_of := fun f cdv A outer s H vs Q E hr h => by
  have hu := hu_of hr
  obtain ⟨x, ts, Φ, ⟨Z, n, t, rfl, ht, rfl⟩, T, hh, q⟩ := h
  refine ⟨_, (pss_cons (ps_for PassesOwn.never rfl (pi_tup (pe_ix ix_tup (pv 0) pe_int (fun _ _ => rfl))) (pg_name (i := 2) sc_train_of.nd rfl (Or.inl rfl))
      (pss_cons (ps_if (pt_cmpR (op_eqD hr.units) (pe_ix ix_tup (pv 2) pe_int (fun _ _ => rfl)) (pv 1) (nomark _))
        (pss_cons (ps_ret (pv 2))
        pss_nil)
        pss_nil)
      pss_nil))
    (pss_cons ps_never
    pss_nil)), ?_⟩
  refine start_F (N := N_train_of) T hh ?_
  have R := ret_F q
  refine tr_forE (as := Z.2) (f := tD) (srcT (ev_z1 (ev_var (t := stnTy Z) rfl))) (fun i s => ∃ t, s = ⟨[stnTy Z, .im (nD n), t], [], none⟩ ∧ (Z.2.take i).find? (fun t => decide (t.1 = n)) = none) ⟨.any, rfl, rfl⟩ (fun _ _ ⟨_, e, _⟩ => by rw [e]) ?_ ?_
  · rintro H1 Bs i c _ he ⟨t0, rfl, hn⟩
    refine ⟨_, _, bd_name (by show 2 < 3; decide), ?_⟩
    refine tr_ifD (et_test (ev_eqE encS (a := c.1) (b := n) (ev_ixT (ev_var (t := .im (tD c)) rfl)) (ev_var rfl))) (fun e => ?_) fun e => ?_
    · refine tr_retE (R.later Bs) (ev_var (t := .im (tD c)) rfl) ?_
      rw [show t = c from Option.some.inj (ht.symm.trans (find_at hn he e))]
    · exact tr_next fun σ H S => ⟨_, ⟨_, rfl, find_next hn he e⟩, S⟩
  · rintro _ ⟨t0, rfl, hn⟩
    rw [List.take_length] at hn
    rw [show trainOf Z n = none from hn] at ht
    cases ht
abbrev s_place_of : Stmt := topS 13
abbrev N_place_of : List Str := ["standing", "name"]
theorem sc_place_of : FnScope N_place_of ["standing", "name"] (defScope s_place_of) := ⟨rfl, rfl, rfl, by decide +kernel, rfl, by decide +kernel, by decide +kernel⟩
theorem bd_place_of (B : Bl mg) (c_train_of : Cal P w K mg base 1 "train_of" sp_train_of []) : Bod P w K mg base N_place_of "place_of" s_place_of 1 sp_place_of := fun f cdv A outer s H vs Q E hr h => by
  have hu := hu_of hr
  obtain ⟨x, ts, Φ, ⟨Z, n, t, rfl, ht, rfl⟩, T, hh, q⟩ := h
  refine ⟨_, (pss_cons (ps_ret (pe_ix ix_tup (pe_c c_train_of hr (by decide) (by rfl) (pa_cons (pv 0) (pa_cons (pv 1) pa_nil))) pe_int (fun _ _ => rfl)))
    pss_nil), ?_⟩
  refine start_F (N := N_place_of) T hh ?_
  exact tr_retE (ret_F q) (ev_ixT (ds := [nD t.1, nD t.2.1, sD t.2.2]) (ev_c (ts := [stnTy Z, .im (nD n)]) (ea_cons (ev_var rfl) (ea_cons (ev_var rfl) ea_nil)) ⟨Z, n, t, rfl, ht, rfl⟩))
abbrev s_rest_of : Stmt := topS 14
abbrev N_rest_of : List Str := ["standing", "name"]
theorem sc_rest_of : FnScope N_rest_of ["standing", "name"] (defScope s_rest_of) := ⟨rfl, rfl, rfl, by decide +kernel, rfl, by decide +kernel, by decide +kernel⟩
theorem bd_rest_of (B : Bl mg) (c_train_of : Cal P w K mg base 1 "train_of" sp_train_of []) : Bod P w K mg base N_rest_of "rest_of" s_rest_of 1 sp_rest_of := fun f cdv A outer s H vs Q E hr h => by
  have hu := hu_of hr
  obtain ⟨x, ts, Φ, ⟨Z, n, t, rfl, ht, rfl⟩, T, hh, q⟩ := h
  refine ⟨_, (pss_cons (ps_ret (pe_ix ix_tup (pe_c c_train_of hr (by decide) (by rfl) (pa_cons (pv 0) (pa_cons (pv 1) pa_nil))) pe_int (fun _ _ => rfl)))
    pss_nil), ?_⟩
  refine start_F (N := N_rest_of) T hh ?_
  exact tr_retE (ret_F q) (ev_ixT (ds := [nD t.1, nD t.2.1, sD t.2.2]) (ev_c (ts := [stnTy Z, .im (nD n)]) (ea_cons (ev_var rfl) (ea_cons (ev_var rfl) ea_nil)) ⟨Z, n, t, rfl, ht, rfl⟩))
abbrev s_names_of : Stmt := topS 16
abbrev N_names_of : List Str := ["standing", "name", "place", "rest"]
theorem sc_names_of : FnScope N_names_of ["standing"] (defScope s_names_of) := ⟨rfl, rfl, rfl, by decide +kernel, rfl, by decide +kernel, by decide +kernel⟩
theorem bd_names_of (B : Bl mg)  : Bod P w K mg base N_names_of "names_of" s_names_of 0 sp_names_of := fun f cdv A outer s H vs Q E hr h => by
  have hu := hu_of hr
  obtain ⟨x, ts, Φ, ⟨Z, rfl, hz, rfl⟩, T, hh, q⟩ := h
  refine ⟨_, (pss_cons (ps_ret (pe_callTy call_tuple_of (by rfl) B.m_tuple (by decide +kernel) (pa_cons (pe_lc (own := [("name", 1), ("place", 2), ("rest", 3)]) (g := (gTup K 3 (gCons (gName 1) (gCons (gName 2) (gCons (gName 3) gNil))))) (tt := tYes) (te := (tVar 1)) rfl sc_names_of.nd (pi_tup (pe_ix ix_tup (pv 0) pe_int (fun _ _ => rfl))) (blkOk_by (own := [("name", 1), ("place", 2), ("rest", 3)]) (N := N_names_of) (sc := defScope s_names_of) (by decide +kernel)) (fun _ _ _ _ _ => (pg_tup rfl (pgs_cons (pg_name (i := 1) sc_names_of.nd rfl (Or.inl rfl)) (pgs_cons (pg_name (i := 2) sc_names_of.nd rfl (Or.inl rfl)) (pgs_cons (pg_name (i := 3) sc_names_of.nd rfl (Or.inl rfl)) pgs_nil))))) (fun _ _ _ _ _ => pts_nil) (fun _ _ _ _ _ => (pv 1))) pa_nil)))
    pss_nil), ?_⟩
  refine start_F (N := N_names_of) T hh ?_
  refine tr_retE (ret_F q) (ev_tupL (ds := (Z.2.map (·.1)).map nD) (ev_lcM (as := Z.2) (f := tD) (h := nD) (e := fun t => t.1) (srcT (ev_z1 (ev_var (t := stnTy Z) rfl))) (by omega) fun H1 Bs D acc a _ => ⟨_, _, bd_tup (bds_cons (bd_name (by show 1 < 4; decide)) (bds_cons (bd_name (by show 2 < 4; decide)) (bds_cons (bd_name (by show 3 < 4; decide)) bds_nil))), by decide, rfl, rfl, ?_⟩))
  exact ev_var (t := .im (nD a.1)) rfl
abbrev s_staff_of : Stmt := topS 17
abbrev N_staff_of : List Str := ["standing", "key", "one", "station"]
theorem sc_staff_of : FnScope N_staff_of ["standing", "key"] (defScope s_staff_of) := ⟨rfl, rfl, rfl, by decide +kernel, rfl, by decide +kernel, by decide +kernel⟩
theorem bd_staff_of (B : Bl mg)  : Bod P w K mg base N_staff_of "staff_of" s_staff_of 0 sp_staff_of := fun f cdv A outer s H vs Q E hr h => by
  have hu := hu_of hr
  obtain ⟨x, ts, Φ, ⟨Z, k, rfl, rfl⟩, T, hh, q⟩ := h
  refine ⟨_, (pss_cons (ps_for PassesOwn.never rfl (pi_tup (pe_ix ix_tup (pv 0) pe_int (fun _ _ => rfl))) (pg_tup rfl (pgs_cons (pg_name (i := 2) sc_staff_of.nd rfl (Or.inl rfl)) (pgs_cons (pg_name (i := 3) sc_staff_of.nd rfl (Or.inl rfl)) pgs_nil)))
      (pss_cons (ps_if (pt_cmpR (op_eqD hr.units) (pv 2) (pv 1) (nomark _))
        (pss_cons (ps_ret (pv 3))
        pss_nil)
        pss_nil)
      pss_nil))
    (pss_cons (ps_ret pe_non)
    pss_nil)), ?_⟩
  refine start_F (N := N_staff_of) T hh ?_
  have R := ret_F q
  refine tr_forE (as := Z.1) (f := fD) (srcZ (ev_z0 (ev_var (t := stnTy Z) rfl))) (fun i s => ∃ t u, s = ⟨[stnTy Z, .im (kD k), t, u], [], none⟩ ∧ (Z.1.take i).find? (fun f => decide (f.1 = k)) = none) ⟨.any, .any, rfl, rfl⟩ (fun _ _ ⟨_, _, e, _⟩ => by rw [e]) ?_ ?_
  · rintro H1 Bs i c _ he ⟨t0, t1, rfl, hn⟩
    refine ⟨_, _, bd_tup (bds_cons (bd_name (by show 2 < 4; decide)) (bds_cons (bd_name (by show 3 < 4; decide)) bds_nil)), ?_⟩
    refine tr_ifD (et_test (ev_eqE encK (a := c.1) (b := k) (ev_var rfl) (ev_var rfl))) (fun e => ?_) fun e => ?_
    · refine tr_retE (R.later Bs) (ev_var (t := .im (nD c.2)) rfl) ?_
      unfold staffOf
      rw [find_at hn he e]
      rfl
    · exact tr_next fun σ H S => ⟨_, ⟨_, _, rfl, find_next hn he e⟩, S⟩
  · rintro _ ⟨t0, t1, rfl, hn⟩
    rw [List.take_length] at hn
    refine tr_retE R ev_non ?_
    unfold staffOf
    rw [hn]
    rfl
abbrev s_lies_open : Stmt := topS 21
abbrev N_lies_open : List Str := ["line", "standing", "passed", "start", "end", "key"]
theorem sc_lies_open : FnScope N_lies_open ["line", "standing", "passed", "start", "end"] (defScope s_lies_open) := ⟨rfl, rfl, rfl, by decide +kernel, rfl, by decide +kernel, by decide +kernel⟩
theorem bd_lies_open (B : Bl mg) (c_key_of : Cal P w K mg base 1 "key_of" sp_key_of []) (c_staff_of : Cal P w K mg base 1 "staff_of" sp_staff_of []) (c_sort_of : Cal P w K mg base 3 "sort_of" sp_sort_of []) : Bod P w K mg base N_lies_open "lies_open" s_lies_open 3 sp_lies_open := fun f cdv A outer s H vs Q E hr h => by
  have hu := hu_of hr
  obtain ⟨x, ts, Φ, ⟨L, Z, ps, a, b, s1, rfl, hs, rfl⟩, T, hh, q⟩ := h
  refine ⟨_, (pss_cons (ps_set (i := 5) sc_lies_open.nd rfl (Or.inl rfl) (pe_c c_key_of hr (by decide) (by rfl) (pa_cons (pv 3) (pa_cons (pv 4) pa_nil))))
    (pss_cons (ps_if (PW.pt (pw_or (pt_cmpR (op_inD hr.units1) (pv 5) (pv 2) (by with_unfolding_all rfl)) (pw_or1 (pt_cmpR (op_eqD hr.units) (pe_c c_sort_of hr (by decide) (by rfl) (pa_cons (pv 0) (pa_cons (pv 5) pa_nil))) pe_str (nomark _)))))
      (pss_cons (ps_ret pe_bl)
      pss_nil)
      pss_nil)
    (pss_cons (ps_ret (pe_cmpR (op_eqD hr.units) (pe_c c_staff_of hr (by decide) (by rfl) (pa_cons (pv 1) (pa_cons (pv 5) pa_nil))) (pv 3) (nomark _)))
    pss_nil))), ?_⟩
  refine start_F (N := N_lies_open) T hh ?_
  have R := ret_F q
  refine tr_asgD (by show 5 < 6; decide) (ev_c (ts := [.im (nD a), .im (nD b)]) (ea_cons (ev_var rfl) (ea_cons (ev_var rfl) ea_nil)) ⟨a, b, rfl, rfl⟩) ?_
  have e1 : decide (sortOf L (keyOf a b) = some freeN) = decide (s1 = freeN) := dec_iff ⟨fun z => Option.some.inj (hs.symm.trans z), fun z => by rw [hs, z]⟩
  refine tr_ifD (et_or (et_test (ev_opD (ev_var rfl) (ev_var rfl) (rd_in encK (a := keyOf a b) (as := ps)))) fun _ => et_test (ev_eqE encS (a := s1) (b := freeN) (ev_c (ts := [.im (lD L), .im (kD (keyOf a b))]) (ea_cons (ev_var rfl) (ea_cons (ev_var rfl) ea_nil)) ⟨L, _, s1, rfl, hs, rfl⟩) ev_str)) (fun e => ?_) fun e => ?_
  · refine tr_retE R ev_bl ?_
    have e2 : (decide (keyOf a b ∈ ps) || decide (s1 = freeN)) = true := by simpa using e
    unfold openB
    rw [e1, e2]
    rfl
  · refine tr_end (tr_retE R (ev_eqE encO (a := staffOf Z (keyOf a b)) (b := some a) (ev_c (ts := [stnTy Z, .im (kD (keyOf a b))]) (ea_cons (ev_var rfl) (ea_cons (ev_var rfl) ea_nil)) ⟨Z, _, rfl, rfl⟩) (ev_var rfl)) ?_)
    have e2 : (decide (keyOf a b ∈ ps) || decide (s1 = freeN)) = false := by simpa using e
    unfold openB
    rw [e1, e2, Bool.false_or]
end
end Sx
set_option Elab.async false
set_option linter.all false
set_option maxRecDepth 100000
set_option maxHeartbeats 4000000
/-! Plain laws: the way in the tree, the open run. -/
namespace Sx
open PySem L2 PySem.W

/-! ### the order of keys -/
theorem sLt_irrefl (a : Str) : sLt a a = false := decide_eq_false (List.lt_irrefl a.cps.toList)
theorem sLt_total {a b : Str} (h : sLt a b = false) (h' : sLt b a = false) : a = b := by
  have h1 := of_decide_eq_false h
  have h2 := of_decide_eq_false h'
  have e : a.cps.toList = b.cps.toList := List.le_antisymm (List.not_lt.mp h2) (List.not_lt.mp h1)
  exact str_of_cps e
theorem keyOf_idem (a b : Nm) : keyOf (keyOf a b).1 (keyOf a b).2 = keyOf a b := by
  unfold keyOf
  by_cases h : sLt a.1 b.1 = true
  · rw [if_pos h]
    exact if_pos h
  · rw [if_neg h]
    by_cases h' : sLt b.1 a.1 = true
    · exact if_pos h'
    · have e : a = b := Subtype.ext (sLt_total (by simpa using h) (by simpa using h'))
      subst e
      exact if_neg h'
theorem keyOf_comm (a b : Nm) : keyOf a b = keyOf b a := by
  unfold keyOf
  by_cases h : sLt a.1 b.1 = true
  · rw [if_pos h]
    by_cases h' : sLt b.1 a.1 = true
    · exact absurd (of_decide_eq_true h') (List.lt_asymm (of_decide_eq_true h))
    · rw [if_neg h']
  · rw [if_neg h]
    by_cases h' : sLt b.1 a.1 = true
    · rw [if_pos h']
    · rw [if_neg h']
      have e : a = b := Subtype.ext (sLt_total (by simpa using h) (by simpa using h'))
      rw [e]

/-! ### a line, a standing -/
structure LinOk (L : Lin) : Prop where
  ne : L.1 ≠ []
  st : L.1.Nodup
  sn : L.1.length ≤ 24
  sl : L.2.length ≤ 100
  en : ∀ s ∈ L.2, s.1 ∈ L.1 ∧ s.2.1 ∈ L.1
  or : ∀ s ∈ L.2, keyOf s.1 s.2.1 = (s.1, s.2.1)
  kd : (keysL L).Nodup
  cn : ∀ (S : Nm → Prop) (a : Nm), a ∈ L.1 → S a → (∀ x y, S x → y ∈ nbrs L x → S y) → ∀ b ∈ L.1, S b
def pf : Nm → List Nm → List Key2
  | _, [] => []
  | p, r :: rs => (p, r) :: pf r rs
theorem pf_zip : ∀ (p : Nm) (rs : List Nm), (p :: rs).zip rs = pf p rs
  | _, [] => rfl
  | p, r :: rs => congrArg ((p, r) :: ·) (pf_zip r rs)
theorem pf_len : ∀ (p : Nm) (rs : List Nm), (pf p rs).length = rs.length
  | _, [] => rfl
  | p, r :: rs => congrArg (· + 1) (pf_len r rs)
def passesOf (t : Trn) : List Key2 := pf t.2.1 t.2.2
def keyP (p : Key2) : Key2 := keyOf p.1 p.2
structure PsOk (L : Lin) (t : Trn) : Prop where
  pl : t.2.1 ∈ L.1
  rl : t.2.2.length ≤ 60
  st : ∀ x ∈ t.2.2, x ∈ L.1
  wk : ∀ p ∈ passesOf t, ∃ s, sortOf L (keyP p) = some s
structure StnOk (L : Lin) (Z : Stn) : Prop where
  nm : (Z.2.map (·.1)).Nodup
  nl : Z.2.length ≤ 100
  zl : Z.1.length ≤ 100
  ps : ∀ t ∈ Z.2, PsOk L t
  sf : ∀ k s, staffOf Z k = some s → s ∈ L.1
  sx : ∀ k s, keyP k = k → sortOf L k = some s → s ≠ freeN → ∃ a, staffOf Z k = some a

/-! ### searching the tree -/
structure CF where
  f : List (Nm × Option Nm)
  w : List Nm
def cfAdd (st : Nm) (c : CF) (o : Nm) : CF := if o ∈ c.f.map (·.1) then c else ⟨c.f ++ [(o, some st)], c.w ++ [o]⟩
def cfStep (L : Lin) (c : CF) : CF := match c.w.getLast? with
  | none => c
  | some st => (nbrs L st).foldl (cfAdd st) ⟨c.f, c.w.dropLast⟩
def cfN (L : Lin) (a : Nm) : Nat → CF
  | 0 => ⟨[(a, none)], [a]⟩
  | n + 1 => cfStep L (cfN L a n)
def ahead (L : Lin) (a : Nm) : List (Nm × Option Nm) := (cfN L a 100).f
structure CfOk (L : Lin) (a : Nm) (c : CF) : Prop where
  nd : (c.f.map (·.1)).Nodup
  sb : ∀ x ∈ c.f.map (·.1), x ∈ L.1
  ws : ∀ x ∈ c.w, x ∈ c.f.map (·.1)
  up : ∀ (j : Nat) (o st : Nm), c.f[j]? = some (o, some st) → ∃ i pp, i < j ∧ c.f[i]? = some (st, pp)
  rt : ∀ (j : Nat) (o : Nm), c.f[j]? = some (o, none) → o = a
  hd : a ∈ c.f.map (·.1)
theorem nbrs_mem {L : Lin} {a b : Nm} (h : b ∈ nbrs L a) : ∃ s ∈ L.2, (s.1 = a ∧ s.2.1 = b) ∨ (s.2.1 = a ∧ s.1 = b) := by
  unfold nbrs at h
  rw [List.mem_mergeSort, List.mem_flatMap] at h
  obtain ⟨k, hk, hb⟩ := h
  obtain ⟨s, hs, rfl⟩ := List.mem_map.mp hk
  refine ⟨s, hs, ?_⟩
  unfold nbOne at hb
  rcases List.mem_append.mp hb with hb | hb
  · split at hb
    · next e => exact .inl ⟨e, (List.mem_singleton.mp hb).symm⟩
    · cases hb
  · split at hb
    · next e => exact .inr ⟨e, (List.mem_singleton.mp hb).symm⟩
    · cases hb
theorem mem_nbrs {L : Lin} {s : Sec} (hs : s ∈ L.2) : s.2.1 ∈ nbrs L s.1 ∧ s.1 ∈ nbrs L s.2.1 := by
  have hk : (s.1, s.2.1) ∈ keysL L := List.mem_map.mpr ⟨s, hs, rfl⟩
  unfold nbrs
  rw [List.mem_mergeSort, List.mem_mergeSort, List.mem_flatMap, List.mem_flatMap]
  refine ⟨⟨_, hk, ?_⟩, ⟨_, hk, ?_⟩⟩
  · unfold nbOne
    rw [if_pos rfl]
    exact List.mem_append_left _ (List.mem_singleton.mpr rfl)
  · unfold nbOne
    rw [if_pos (c := (s.1, s.2.1).2 = s.2.1) rfl]
    exact List.mem_append_right _ (List.mem_singleton.mpr rfl)
theorem cfAdd_ok {L : Lin} {a st o : Nm} {c : CF} (h : CfOk L a c) (hs : st ∈ c.f.map (·.1)) (ho : o ∈ L.1) : CfOk L a (cfAdd st c o) ∧ (∀ x ∈ c.f.map (·.1), x ∈ (cfAdd st c o).f.map (·.1)) ∧ o ∈ (cfAdd st c o).f.map (·.1) ∧ (∀ x ∈ (cfAdd st c o).f.map (·.1), x ∈ c.f.map (·.1) ∨ x ∈ (cfAdd st c o).w) ∧ (∀ x ∈ c.w, x ∈ (cfAdd st c o).w) ∧ (cfAdd st c o).w.length + c.f.length = c.w.length + (cfAdd st c o).f.length := by
  unfold cfAdd
  by_cases e : o ∈ c.f.map (·.1)
  · rw [if_pos e]
    exact ⟨h, fun _ m => m, e, fun _ m => .inl m, fun _ m => m, rfl⟩
  · rw [if_neg e]
    have em : (c.f ++ [(o, some st)]).map (·.1) = c.f.map (·.1) ++ [o] := by
      rw [List.map_append]
      rfl
    refine ⟨⟨?_, ?_, ?_, ?_, ?_, ?_⟩, ?_, ?_, ?_, ?_, ?_⟩
    · show ((c.f ++ [(o, some st)]).map (·.1)).Nodup
      rw [em]
      exact List.nodup_append.mpr ⟨h.nd, by simp, fun x hx y hy z => e (by rw [← List.mem_singleton.mp hy, ← z]; exact hx)⟩
    · intro x hx
      have hx : x ∈ (c.f ++ [(o, some st)]).map (·.1) := hx
      rw [em] at hx
      rcases List.mem_append.mp hx with hx | hx
      · exact h.sb x hx
      · rw [List.mem_singleton.mp hx]
        exact ho
    · intro x hx
      show x ∈ (c.f ++ [(o, some st)]).map (·.1)
      rw [em]
      rcases List.mem_append.mp hx with hx | hx
      · exact List.mem_append_left _ (h.ws x hx)
      · exact List.mem_append_right _ hx
    · intro j p q hj
      have hj : (c.f ++ [(o, some st)])[j]? = some (p, some q) := hj
      show ∃ i pp, i < j ∧ (c.f ++ [(o, some st)])[i]? = some (q, pp)
      by_cases hl : j < c.f.length
      · rw [List.getElem?_append_left hl] at hj
        obtain ⟨i, pp, h1, h2⟩ := h.up j p q hj
        exact ⟨i, pp, h1, by rw [List.getElem?_append_left (by omega)]; exact h2⟩
      · rw [List.getElem?_append_right (by omega)] at hj
        obtain ⟨h1, h2⟩ := List.getElem?_eq_some_iff.mp hj
        have h1 : j - c.f.length < 1 := h1
        have hj0 : j - c.f.length = 0 := by omega
        simp only [hj0, List.getElem_cons_zero] at h2
        injection h2 with h2 h3
        injection h3 with h3
        subst h2 h3
        obtain ⟨y, hy, e2⟩ := List.mem_map.mp hs
        obtain ⟨i, hi, e3⟩ := List.getElem_of_mem hy
        refine ⟨i, y.2, by omega, ?_⟩
        rw [List.getElem?_append_left hi, List.getElem?_eq_getElem hi, e3, ← e2]
    · intro j p hj
      have hj : (c.f ++ [(o, some st)])[j]? = some (p, none) := hj
      by_cases hl : j < c.f.length
      · rw [List.getElem?_append_left hl] at hj
        exact h.rt j p hj
      · rw [List.getElem?_append_right (by omega)] at hj
        obtain ⟨h1, h2⟩ := List.getElem?_eq_some_iff.mp hj
        have h1 : j - c.f.length < 1 := h1
        have hj0 : j - c.f.length = 0 := by omega
        simp only [hj0, List.getElem_cons_zero] at h2
        injection h2 with h2 h3
        cases h3
    · show a ∈ (c.f ++ [(o, some st)]).map (·.1)
      rw [em]
      exact List.mem_append_left _ h.hd
    · intro x hx
      show x ∈ (c.f ++ [(o, some st)]).map (·.1)
      rw [em]
      exact List.mem_append_left _ hx
    · show o ∈ (c.f ++ [(o, some st)]).map (·.1)
      rw [em]
      exact List.mem_append_right _ (List.mem_singleton.mpr rfl)
    · intro x hx
      have hx : x ∈ (c.f ++ [(o, some st)]).map (·.1) := hx
      rw [em] at hx
      rcases List.mem_append.mp hx with hx | hx
      · exact .inl hx
      · exact .inr (List.mem_append_right _ hx)
    · exact fun x hx => List.mem_append_left _ hx
    · show (c.w ++ [o]).length + c.f.length = c.w.length + (c.f ++ [(o, some st)]).length
      rw [List.length_append, List.length_append, List.length_singleton, List.length_singleton]
      omega
theorem cfFold_ok {L : Lin} {a st : Nm} : ∀ (ns : List Nm) {c : CF}, CfOk L a c → st ∈ c.f.map (·.1) → (∀ o ∈ ns, o ∈ L.1) → CfOk L a (ns.foldl (cfAdd st) c) ∧ (∀ x ∈ c.f.map (·.1), x ∈ (ns.foldl (cfAdd st) c).f.map (·.1)) ∧ (∀ o ∈ ns, o ∈ (ns.foldl (cfAdd st) c).f.map (·.1)) ∧
    (∀ x ∈ (ns.foldl (cfAdd st) c).f.map (·.1), x ∈ c.f.map (·.1) ∨ x ∈ (ns.foldl (cfAdd st) c).w) ∧ (∀ x ∈ c.w, x ∈ (ns.foldl (cfAdd st) c).w) ∧ (ns.foldl (cfAdd st) c).w.length + c.f.length = c.w.length + (ns.foldl (cfAdd st) c).f.length
  | [], c, h, _, _ => ⟨h, fun _ m => m, fun _ m => (nomatch m), fun _ m => .inl m, fun _ m => m, rfl⟩
  | o :: ns, c, h, hs, hn => by
    obtain ⟨h1, h2, h3, h4, h5, h6⟩ := cfAdd_ok h hs (hn o List.mem_cons_self)
    obtain ⟨k1, k2, k3, k4, k5, k6⟩ := cfFold_ok ns h1 (h2 st hs) fun x m => hn x (List.mem_cons_of_mem _ m)
    rw [List.foldl_cons]
    refine ⟨k1, fun x m => k2 x (h2 x m), fun x m => ?_, fun x m => ?_, fun x m => k5 x (h5 x m), by omega⟩
    · rcases List.mem_cons.mp m with m | m
      · rw [m]
        exact k2 _ h3
      · exact k3 x m
    · rcases k4 x m with z | z
      · rcases h4 x z with y | y
        · exact .inl y
        · exact .inr (k5 x y)
      · exact .inr z
theorem nodup_sub_len {α : Type} [DecidableEq α] : ∀ {l m : List α}, l.Nodup → (∀ x ∈ l, x ∈ m) → l.length ≤ m.length
  | [], _, _, _ => Nat.zero_le _
  | a :: l, m, h, s => by
    obtain ⟨h1, h2⟩ := List.nodup_cons.mp h
    have hm := s a List.mem_cons_self
    have := nodup_sub_len (m := m.erase a) h2 fun x hx => (List.mem_erase_of_ne fun e => h1 (by rw [← e]; exact hx)).mpr (s x (List.mem_cons_of_mem _ hx))
    rw [List.length_erase_of_mem hm] at this
    have hp : 0 < m.length := List.length_pos_of_mem hm
    rw [List.length_cons]
    omega
section
variable {L : Lin} {a : Nm} (O : LinOk L) (ha : a ∈ L.1)
include O ha
theorem nbrs_st {x y : Nm} (h : y ∈ nbrs L x) : y ∈ L.1 := by
  obtain ⟨s, hs, h | h⟩ := nbrs_mem h
  · rw [← h.2]
    exact (O.en s hs).2
  · rw [← h.2]
    exact (O.en s hs).1
theorem CfOk.len {c : CF} (h : CfOk L a c) : c.f.length ≤ L.1.length := by
  have := nodup_sub_len h.nd h.sb
  rwa [List.length_map] at this
/-- the search after n turns, each of them with something waiting -/
theorem cf_ok : ∀ n, CfOk L a (cfN L a n) ∧ (∀ x ∈ (cfN L a n).f.map (·.1), x ∈ (cfN L a n).w ∨ ∀ o ∈ nbrs L x, o ∈ (cfN L a n).f.map (·.1)) ∧ ((cfN L a n).w = [] ∨ n + (cfN L a n).w.length = (cfN L a n).f.length)
  | 0 => by
    refine ⟨⟨by simp [cfN], fun x m => ?_, fun x m => ?_, fun j o st e => ?_, fun j o e => ?_, by simp [cfN]⟩, fun x m => .inl ?_, .inr (by simp [cfN])⟩
    · have m : x ∈ [a] := m
      rw [List.mem_singleton.mp m]
      exact ha
    · exact m
    · have e : ([(a, none)] : List (Nm × Option Nm))[j]? = some (o, some st) := e
      cases j with
      | zero =>
        simp at e
      | succ j => simp at e
    · have e : ([(a, none)] : List (Nm × Option Nm))[j]? = some (o, none) := e
      cases j with
      | zero =>
        simp at e
        exact e.symm
      | succ j => simp at e
    · exact m
  | n + 1 => by
    obtain ⟨h, k, l⟩ := cf_ok n
    show CfOk L a (cfStep L (cfN L a n)) ∧ _
    rw [show cfN L a (n + 1) = cfStep L (cfN L a n) from rfl]
    generalize cfN L a n = c at h k l
    unfold cfStep
    cases e : c.w.getLast? with
    | none =>
      rw [List.getLast?_eq_none_iff] at e
      exact ⟨h, k, .inl e⟩
    | some st =>
      have hw : c.w = c.w.dropLast ++ [st] := by
        obtain ⟨l, e⟩ := List.getLast?_eq_some_iff.mp e
        rw [e, List.dropLast_concat]
      have hst : st ∈ c.w := by
        rw [hw]
        exact List.mem_append_right _ (List.mem_singleton.mpr rfl)
      have hl : c.w.length = c.w.dropLast.length + 1 := by
        have := congrArg List.length hw
        rwa [List.length_append] at this
      have h0 : CfOk L a ⟨c.f, c.w.dropLast⟩ := ⟨h.nd, h.sb, fun x m => h.ws x (List.dropLast_subset _ m), h.up, h.rt, h.hd⟩
      obtain ⟨h1, h2, h3, h4, h5, h6⟩ := cfFold_ok (nbrs L st) h0 (h.ws st hst) fun o m => nbrs_st O ha m
      show CfOk L a ((nbrs L st).foldl (cfAdd st) ⟨c.f, c.w.dropLast⟩) ∧ (∀ x ∈ ((nbrs L st).foldl (cfAdd st) ⟨c.f, c.w.dropLast⟩).f.map (·.1), x ∈ ((nbrs L st).foldl (cfAdd st) ⟨c.f, c.w.dropLast⟩).w ∨ ∀ o ∈ nbrs L x, o ∈ ((nbrs L st).foldl (cfAdd st) ⟨c.f, c.w.dropLast⟩).f.map (·.1)) ∧ (((nbrs L st).foldl (cfAdd st) ⟨c.f, c.w.dropLast⟩).w = [] ∨ n + 1 + ((nbrs L st).foldl (cfAdd st) ⟨c.f, c.w.dropLast⟩).w.length = ((nbrs L st).foldl (cfAdd st) ⟨c.f, c.w.dropLast⟩).f.length)
      refine ⟨h1, fun x m => ?_, .inr ?_⟩
      · rcases h4 x m with z | z
        · rcases k x z with y | y
          · rw [hw] at y
            rcases List.mem_append.mp y with y | y
            · exact .inl (h5 x y)
            · rw [List.mem_singleton.mp y]
              exact .inr h3
          · exact .inr fun o mo => h2 o (y o mo)
        · exact .inl z
      · rcases l with l | l
        · rw [l] at hst
          cases hst
        · have h6 : ((nbrs L st).foldl (cfAdd st) ⟨c.f, c.w.dropLast⟩).w.length + c.f.length = c.w.dropLast.length + ((nbrs L st).foldl (cfAdd st) ⟨c.f, c.w.dropLast⟩).f.length := h6
          omega
omit O ha in
theorem cf_stay {n : Nat} (h : (cfN L a n).w = []) : ∀ k, cfN L a (n + k) = cfN L a n
  | 0 => rfl
  | k + 1 => by
    show cfStep L (cfN L a (n + k)) = _
    rw [cf_stay h k]
    unfold cfStep
    rw [h]
    rfl
theorem cf_end {n : Nat} (h : (cfN L a n).w = []) (hn : n ≤ 100) : (cfN L a n).f = ahead L a := by
  unfold ahead
  have := cf_stay h (100 - n)
  rw [show n + (100 - n) = 100 by omega] at this
  rw [this]
theorem cf_done : (cfN L a 100).w = [] := by
  obtain ⟨h, _, l⟩ := cf_ok O ha 100
  rcases l with l | l
  · exact l
  · have := h.len O ha
    have := O.sn
    omega
/-- all stations are found -/
theorem ahead_all {b : Nm} (hb : b ∈ L.1) : b ∈ (ahead L a).map (·.1) := by
  obtain ⟨h, k, _⟩ := cf_ok O ha 100
  refine O.cn (fun x => x ∈ (ahead L a).map (·.1)) a ha h.hd (fun x y hx hy => ?_) b hb
  rcases k x hx with z | z
  · rw [cf_done O ha] at z
    cases z
  · exact z y hy
theorem ahead_ok : CfOk L a ⟨ahead L a, []⟩ := by
  obtain ⟨h, _, _⟩ := cf_ok O ha 100
  exact ⟨h.nd, h.sb, fun _ m => (nomatch m), h.up, h.rt, h.hd⟩
end
def wayGo (f : List (Nm × Option Nm)) (one : Nm) : Nat → Nm → List Nm
  | 0, _ => []
  | n + 1, o => if o = one then [] else o :: (match (f.find? fun q => decide (q.1 = o)) with
    | some (_, some p) => wayGo f one n p
    | _ => [])
def wayOf (L : Lin) (one other : Nm) : List Nm := (wayGo (ahead L one) one 100 other).reverse
theorem find_nodup {β : Type} {f : List (Nm × β)} (h : (f.map (·.1)).Nodup) {j : Nat} {o : Nm} {p : β} (e : f[j]? = some (o, p)) : f.find? (fun q => decide (q.1 = o)) = some (o, p) := by
  induction f generalizing j with
  | nil => simp at e
  | cons q f ih =>
    rw [List.map_cons, List.nodup_cons] at h
    cases j with
    | zero =>
      have e : q = (o, p) := by simpa using e
      subst e
      rw [List.find?_cons_of_pos (by simp)]
    | succ j =>
      have e : f[j]? = some (o, p) := by simpa using e
      rw [List.find?_cons_of_neg]
      · exact ih h.2 e
      · simp only [decide_eq_true_eq]
        intro z
        exact h.1 (by rw [z]; exact List.mem_map.mpr ⟨(o, p), List.mem_of_getElem? e, rfl⟩)
end Sx
set_option Elab.async false
set_option linter.all false
set_option maxRecDepth 100000
set_option maxHeartbeats 4000000
/-! Plain laws: the open run's end. -/
namespace Sx
open PySem L2 PySem.W
def baseOpen (L : Lin) (Z : Stn) (p : Key2) : Bool := decide (sortOf L (keyP p) = some freeN) || decide (staffOf Z (keyP p) = some p.1)
theorem openB_eq (L : Lin) (Z : Stn) (ps : List Key2) (a b : Nm) : openB L Z ps a b = (decide (keyP (a, b) ∈ ps) || baseOpen L Z (a, b)) := by
  unfold openB baseOpen
  rw [Bool.or_assoc]
  rfl
inductive Gone (L : Lin) (Z : Stn) : Trn → Nat → Prop
  | zero {t : Trn} : t ∈ Z.2 → Gone L Z t 0
  | base {t : Trn} {k : Nat} {p : Key2} : Gone L Z t k → (passesOf t)[k]? = some p → baseOpen L Z p = true → Gone L Z t (k + 1)
  | key {t t' : Trn} {k k' : Nat} {p p' : Key2} : Gone L Z t k → (passesOf t)[k]? = some p → Gone L Z t' (k' + 1) → (passesOf t')[k']? = some p' → keyP p' = keyP p → Gone L Z t (k + 1)
def Passed (L : Lin) (Z : Stn) (q : Key2) : Prop := ∃ t j p, Gone L Z t (j + 1) ∧ (passesOf t)[j]? = some p ∧ keyP p = q
def Home (L : Lin) (Z : Stn) (t : Trn) : Prop := Gone L Z t t.2.2.length
theorem Gone.mem {L : Lin} {Z : Stn} {t : Trn} {k : Nat} (h : Gone L Z t k) : t ∈ Z.2 := by
  induction h with
  | zero h => exact h
  | base _ _ _ ih => exact ih
  | key _ _ _ _ _ ih _ => exact ih
def advP : Nm → List Nm → Nat → Nm × List Nm
  | p, rs, 0 => (p, rs)
  | p, [], _ + 1 => (p, [])
  | _, r :: rs, k + 1 => advP r rs k
theorem advP_zero (p : Nm) (rs : List Nm) : advP p rs 0 = (p, rs) := by cases rs <;> rfl
def adv (t : Trn) (k : Nat) : Trn := (t.1, advP t.2.1 t.2.2 k)
theorem advP_len : ∀ (p : Nm) (rs : List Nm) (k : Nat), (advP p rs k).2.length = rs.length - k
  | p, rs, 0 => by rw [advP_zero]; rfl
  | _, [], _ + 1 => by simp [advP]
  | _, r :: rs, k + 1 => by
    show (advP r rs k).2.length = _
    rw [advP_len r rs k, List.length_cons]
    omega
theorem advP_at : ∀ (p : Nm) (rs : List Nm) (k : Nat) (r : Nm) (us : List Nm), (advP p rs k).2 = r :: us → (pf p rs)[k]? = some ((advP p rs k).1, r) ∧ advP p rs (k + 1) = (r, us)
  | p, rs, 0, r, us, h => by
    rw [advP_zero] at h ⊢
    have h : rs = r :: us := h
    subst h
    refine ⟨rfl, ?_⟩
    show advP r us 0 = _
    rw [advP_zero]
  | _, [], _ + 1, _, _, h => (nomatch h)
  | _, q :: rs, k + 1, r, us, h => by
    obtain ⟨h1, h2⟩ := advP_at q rs k r us h
    refine ⟨by rw [pf, List.getElem?_cons_succ]; exact h1, h2⟩
theorem advP_some : ∀ (p : Nm) (rs : List Nm) (k : Nat) (q : Key2), (pf p rs)[k]? = some q → q.1 = (advP p rs k).1 ∧ ∃ us, (advP p rs k).2 = q.2 :: us
  | _, [], _, _, h => by simp [pf] at h
  | p, r :: rs, 0, q, h => by
    have h : (p, r) = q := by simpa [pf] using h
    subst h
    exact ⟨rfl, rs, rfl⟩
  | p, r :: rs, k + 1, q, h => by
    rw [pf, List.getElem?_cons_succ] at h
    exact advP_some r rs k q h
theorem pf_adv : ∀ (p : Nm) (rs : List Nm) (k : Nat), pf (advP p rs k).1 (advP p rs k).2 = (pf p rs).drop k
  | p, rs, 0 => by rw [advP_zero]; rfl
  | _, [], _ + 1 => rfl
  | _, r :: rs, k + 1 => pf_adv r rs k
theorem advP_add : ∀ (p : Nm) (rs : List Nm) (k j : Nat), advP (advP p rs k).1 (advP p rs k).2 j = advP p rs (k + j)
  | p, rs, 0, j => by rw [Nat.zero_add, advP_zero]
  | p, [], k + 1, j => by
    rw [show k + 1 + j = (k + j) + 1 by omega]
    cases j <;> rfl
  | _, r :: rs, k + 1, j => by
    rw [show k + 1 + j = (k + j) + 1 by omega]
    exact advP_add r rs k j
theorem advP_sub : ∀ (p : Nm) (rs : List Nm) (k : Nat) (S : List Nm), p ∈ S → (∀ x ∈ rs, x ∈ S) → (advP p rs k).1 ∈ S ∧ ∀ x ∈ (advP p rs k).2, x ∈ S
  | p, rs, 0, _, h, h' => by rw [advP_zero]; exact ⟨h, h'⟩
  | _, [], _ + 1, _, h, h' => ⟨h, h'⟩
  | _, r :: rs, k + 1, S, h, h' => advP_sub r rs k S (h' r List.mem_cons_self) fun x m => h' x (List.mem_cons_of_mem _ m)
theorem adv_inj {t : Trn} {k k' : Nat} (h : k ≤ t.2.2.length) (h' : k' ≤ t.2.2.length) (e : adv t k = adv t k') : k = k' := by
  have e2 : (advP t.2.1 t.2.2 k).2.length = (advP t.2.1 t.2.2 k').2.length := congrArg (fun u : Trn => u.2.2.length) e
  rw [advP_len, advP_len] at e2
  omega
theorem PsOk.adv {L : Lin} {t : Trn} (h : PsOk L t) (k : Nat) : PsOk L (adv t k) := by
  obtain ⟨h1, h2⟩ := advP_sub t.2.1 t.2.2 k L.1 h.pl h.st
  refine ⟨h1, ?_, h2, fun p hp => h.wk p ?_⟩
  · show (advP t.2.1 t.2.2 k).2.length ≤ 60
    rw [advP_len]
    have := h.rl
    omega
  · have hp : p ∈ pf (advP t.2.1 t.2.2 k).1 (advP t.2.1 t.2.2 k).2 := hp
    rw [pf_adv] at hp
    exact List.mem_of_mem_drop hp
/-- how far the trains have come, what they have passed -/
structure Rch (L : Lin) (Z : Stn) (ts : List Trn) (ps : List Key2) : Prop where
  len : ts.length = Z.2.length
  tr : ∀ (i : Nat) (t : Trn), Z.2[i]? = some t → ∃ k, ts[i]? = some (adv t k) ∧ k ≤ t.2.2.length ∧ Gone L Z t k ∧ ∀ (j : Nat) (p : Key2), j < k → (passesOf t)[j]? = some p → keyP p ∈ ps
  pd : ∀ q ∈ ps, Passed L Z q
  nd : ps.Nodup
def Shut (L : Lin) (Z : Stn) (ps : List Key2) (u : Trn) : Prop := ∀ r rs, u.2.2 = r :: rs → openB L Z ps u.2.1 r = false
structure RunEnd (L : Lin) (Z : Stn) (ts : List Trn) (ps : List Key2) : Prop extends Rch L Z ts ps where
  cl : ∀ u ∈ ts, Shut L Z ps u
section
variable {L : Lin} {Z : Stn} {ts : List Trn} {ps : List Key2}
theorem RunEnd.max (R : RunEnd L Z ts ps) {t : Trn} {k : Nat} (h : Gone L Z t k) : ∀ (i k' : Nat), Z.2[i]? = some t → ts[i]? = some (Sx.adv t k') → k' ≤ t.2.2.length → k ≤ k' := by
  have key : ∀ {t : Trn} {k k' i : Nat} {p : Key2}, (passesOf t)[k]? = some p → Z.2[i]? = some t → ts[i]? = some (Sx.adv t k') → k' ≤ t.2.2.length → k ≤ k' → (baseOpen L Z p = true ∨ keyP p ∈ ps) → k + 1 ≤ k' := by
    intro t k k' i p hp hi hk hl hle ho
    by_cases e : k = k'
    · subst e
      obtain ⟨e1, us, e2⟩ := advP_some _ _ _ _ hp
      have := R.cl _ (List.mem_of_getElem? hk) p.2 us e2
      rw [openB_eq, Bool.or_eq_false_iff] at this
      have e3 : ((Sx.adv t k).2.1, p.2) = p := Prod.ext e1.symm rfl
      rw [e3] at this
      rcases ho with ho | ho
      · rw [ho] at this
        exact absurd this.2 (by decide)
      · exact absurd ho (of_decide_eq_false this.1)
    · omega
  induction h with
  | zero h => exact fun i k' _ _ _ => Nat.zero_le _
  | base g hp hb ih => exact fun i k' hi hk hl => key hp hi hk hl (ih i k' hi hk hl) (.inl hb)
  | @key t t' k j p p' g hp g' hp' he ih ih' =>
    intro i k' hi hk hl
    refine key hp hi hk hl (ih i k' hi hk hl) (.inr ?_)
    obtain ⟨i', hi'⟩ := List.getElem?_of_mem g'.mem
    obtain ⟨k2, h1, h2, _, h4⟩ := R.tr i' t' hi'
    have := ih' i' k2 hi' h1 h2
    rw [← he]
    exact h4 j p' (by omega) hp'
theorem RunEnd.home (R : RunEnd L Z ts ps) {i : Nat} {t u : Trn} (hi : Z.2[i]? = some t) (hu : ts[i]? = some u) : u.2.2 = [] ↔ Home L Z t := by
  obtain ⟨k, h1, h2, h3, _⟩ := R.tr i t hi
  rw [h1] at hu
  cases hu
  have hl : (Sx.adv t k).2.2.length = t.2.2.length - k := advP_len _ _ _
  constructor
  · intro e
    rw [e] at hl
    have hl : 0 = t.2.2.length - k := hl
    have : k = t.2.2.length := by omega
    unfold Home
    rw [← this]
    exact h3
  · intro h
    have := R.max h i k hi h1 h2
    exact List.length_eq_zero_iff.mp (by omega)
theorem RunEnd.passed (R : RunEnd L Z ts ps) (q : Key2) : q ∈ ps ↔ Passed L Z q := by
  constructor
  · exact R.pd q
  · rintro ⟨t, j, p, g, hp, rfl⟩
    obtain ⟨i, hi⟩ := List.getElem?_of_mem g.mem
    obtain ⟨k, h1, h2, _, h4⟩ := R.tr i t hi
    have := R.max g i k hi h1 h2
    exact h4 j p (by omega) hp
theorem RunEnd.names (R : Rch L Z ts ps) : ts.map (·.1) = Z.2.map (·.1) := by
  apply List.ext_getElem?
  intro i
  rw [List.getElem?_map, List.getElem?_map]
  cases e : Z.2[i]? with
  | none =>
    have : ts[i]? = none := List.getElem?_eq_none (by rw [R.len]; exact List.getElem?_eq_none_iff.mp e)
    rw [this]
  | some t =>
    obtain ⟨k, h1, _⟩ := R.tr i t e
    rw [h1]
    rfl
theorem RunEnd.perm {ps' : List Key2} (R : RunEnd L Z ts ps) (e : ps'.Perm ps) : RunEnd L Z ts ps' where
  len := R.len
  tr := fun i t hi => by
    obtain ⟨k, h1, h2, h3, h4⟩ := R.tr i t hi
    exact ⟨k, h1, h2, h3, fun j p hj hp => e.mem_iff.mpr (h4 j p hj hp)⟩
  pd := fun q hq => R.pd q (e.mem_iff.mp hq)
  nd := e.nodup_iff.mpr R.nd
  cl := fun u hu r rs he => by
    have := R.cl u hu r rs he
    rw [openB_eq] at this ⊢
    rw [← this]
    congr 1
    exact dec_iff e.mem_iff
theorem sort_key {q : Key2} {s : Nm} (h : sortOf L q = some s) (hq : keyP q = q) : q ∈ keysL L := by
  unfold sortOf at h
  rw [Option.map_eq_some_iff] at h
  obtain ⟨c, h, _⟩ := h
  have h1 := List.find?_some h
  have h2 := List.mem_of_find?_eq_some h
  have e : (c.1, c.2.1) = keyOf q.1 q.2 := of_decide_eq_true h1
  have hq : keyOf q.1 q.2 = q := hq
  rw [hq] at e
  exact List.mem_map.mpr ⟨c, h2, e⟩
theorem Passed.key {q : Key2} (O : StnOk L Z) (h : Passed L Z q) : q ∈ keysL L := by
  obtain ⟨t, j, p, g, hp, rfl⟩ := h
  obtain ⟨s, hs⟩ := (O.ps t g.mem).wk p (List.mem_of_getElem? hp)
  exact sort_key hs (keyOf_idem _ _)
theorem Rch.small (R : Rch L Z ts ps) (O : StnOk L Z) : ps.length ≤ L.2.length := by
  have := nodup_sub_len R.nd fun q hq => (R.pd q hq).key O
  unfold keysL at this
  rwa [List.length_map] at this
theorem Rch.start (O : StnOk L Z) : Rch L Z Z.2 [] where
  len := rfl
  tr := fun i t hi => ⟨0, by rw [hi]; unfold adv; rw [advP_zero], Nat.zero_le _, .zero (List.mem_of_getElem? hi), fun j p h => absurd h (Nat.not_lt_zero _)⟩
  pd := fun _ h => (nomatch h)
  nd := List.nodup_nil
end
/-! ### one train goes on -/
def goOn (L : Lin) (Z : Stn) (ps : List Key2) : Nm → List Nm → List Key2 → Nm × List Nm × List Key2
  | p, [], f => (p, [], f)
  | p, r :: rs, f => if openB L Z (ps ++ f) p r = true then goOn L Z ps r rs (if keyOf p r ∈ ps ++ f then f else f ++ [keyOf p r]) else (p, r :: rs, f)
theorem goOn_ok {L : Lin} {Z : Stn} {t : Trn} {ps : List Key2} : ∀ (rs : List Nm) (p : Nm) (k : Nat) (f : List Key2), advP t.2.1 t.2.2 k = (p, rs) → k ≤ t.2.2.length → Gone L Z t k → (∀ q ∈ ps ++ f, Passed L Z q) → (ps ++ f).Nodup →
    ∃ k' f', goOn L Z ps p rs f = ((advP t.2.1 t.2.2 k').1, (advP t.2.1 t.2.2 k').2, f') ∧ k ≤ k' ∧ k' ≤ t.2.2.length ∧ Gone L Z t k' ∧ (∀ q ∈ ps ++ f', Passed L Z q) ∧ (ps ++ f').Nodup ∧ (∀ q ∈ f, q ∈ f') ∧
      (∀ j q, k ≤ j → j < k' → (passesOf t)[j]? = some q → keyP q ∈ ps ++ f') ∧ Shut L Z (ps ++ f') (adv t k') ∧ (k' = k → f' = f)
  | [], p, k, f, e, hk, g, hp, hn => ⟨k, f, by rw [e]; rfl, Nat.le_refl _, hk, g, hp, hn, fun _ m => m, fun j q h1 h2 _ => by omega, (fun r rs h => by
    have h : (advP t.2.1 t.2.2 k).2 = r :: rs := h
    rw [e] at h
    cases h), fun _ => rfl⟩
  | r :: rs, p, k, f, e, hk, g, hp, hn => by
    unfold goOn
    obtain ⟨a1, a2⟩ := advP_at t.2.1 t.2.2 k r rs (by rw [e])
    rw [e] at a1
    by_cases ho : openB L Z (ps ++ f) p r = true
    · rw [if_pos ho]
      have hl : k + 1 ≤ t.2.2.length := by
        have := (List.getElem?_eq_some_iff.mp a1).1
        rw [pf_len] at this
        exact this
      have g' : Gone L Z t (k + 1) := by
        rw [openB_eq, Bool.or_eq_true] at ho
        rcases ho with ho | ho
        · obtain ⟨t', j', p', b1, b2, b3⟩ := hp _ (of_decide_eq_true ho)
          exact .key g a1 b1 b2 b3
        · exact .base g a1 ho
      have hpk : Passed L Z (keyOf p r) := ⟨t, k, (p, r), g', a1, rfl⟩
      have hp2 : ∀ q ∈ ps ++ (if keyOf p r ∈ ps ++ f then f else f ++ [keyOf p r]), Passed L Z q := by
        intro q hq
        by_cases hm : keyOf p r ∈ ps ++ f
        · rw [if_pos hm] at hq
          exact hp q hq
        · rw [if_neg hm, ← List.append_assoc] at hq
          rcases List.mem_append.mp hq with hq | hq
          · exact hp q hq
          · rw [List.mem_singleton.mp hq]
            exact hpk
      have hn2 : (ps ++ (if keyOf p r ∈ ps ++ f then f else f ++ [keyOf p r])).Nodup := by
        by_cases hm : keyOf p r ∈ ps ++ f
        · rw [if_pos hm]
          exact hn
        · rw [if_neg hm, ← List.append_assoc]
          exact List.nodup_append.mpr ⟨hn, by simp, fun x hx y hy z => hm (by rw [← List.mem_singleton.mp hy, ← z]; exact hx)⟩
      have hsub : ∀ q ∈ f, q ∈ (if keyOf p r ∈ ps ++ f then f else f ++ [keyOf p r]) := by
        intro q hq
        split
        · exact hq
        · exact List.mem_append_left _ hq
      have hin : keyOf p r ∈ ps ++ (if keyOf p r ∈ ps ++ f then f else f ++ [keyOf p r]) := by
        by_cases hm : keyOf p r ∈ ps ++ f
        · rw [if_pos hm]
          exact hm
        · rw [if_neg hm]
          exact List.mem_append_right _ (List.mem_append_right _ (List.mem_singleton.mpr rfl))
      obtain ⟨k', f', c1, c2, c3, c4, c5, c6, c7, c8, c9, c10⟩ := goOn_ok rs r (k + 1) _ a2 hl g' hp2 hn2
      refine ⟨k', f', c1, by omega, c3, c4, c5, c6, fun q hq => c7 q (hsub q hq), fun j q h1 h2 h3 => ?_, c9, fun z => by omega⟩
      by_cases hj : j = k
      · subst hj
        have : (passesOf t)[j]? = some (p, r) := a1
        rw [this] at h3
        cases h3
        show keyOf p r ∈ ps ++ f'
        rcases List.mem_append.mp hin with z | z
        · exact List.mem_append_left _ z
        · exact List.mem_append_right _ (c7 _ z)
      · exact c8 j q (by omega) h2 h3
    · rw [if_neg ho]
      refine ⟨k, f, by rw [e], Nat.le_refl _, hk, g, hp, hn, fun _ m => m, fun j q h1 h2 _ => by omega, fun r' rs' h => ?_, fun _ => rfl⟩
      have h : (advP t.2.1 t.2.2 k).2 = r' :: rs' := h
      show openB L Z (ps ++ f) (advP t.2.1 t.2.2 k).1 r' = false
      rw [e] at h ⊢
      cases h
      simpa using ho
/-- what is still to be gone -/
def rem (ts : List Trn) : Nat := (ts.map fun u => u.2.2.length).sum
theorem rem_set {u' : Trn} : ∀ {ts : List Trn} {i : Nat} {u : Trn}, ts[i]? = some u → rem (ts.set i u') + u.2.2.length = rem ts + u'.2.2.length
  | [], _, _, h => by simp at h
  | v :: ts, 0, u, h => by
    have h : v = u := by simpa using h
    subst h
    show (((u' :: ts).map fun u => u.2.2.length).sum + v.2.2.length = ((v :: ts).map fun u => u.2.2.length).sum + u'.2.2.length)
    rw [List.map_cons, List.map_cons, List.sum_cons, List.sum_cons]
    omega
  | v :: ts, i + 1, u, h => by
    have h : ts[i]? = some u := by simpa using h
    have := rem_set (u' := u') h
    unfold rem at this ⊢
    rw [List.set_cons_succ, List.map_cons, List.map_cons, List.sum_cons, List.sum_cons]
    omega
/-- one train's turn -/
theorem Rch.step {L : Lin} {Z : Stn} {ts : List Trn} {ps : List Key2} (R : Rch L Z ts ps) {i : Nat} {u : Trn} (hu : ts[i]? = some u) {p' : Nm} {r' : List Nm} {f' : List Key2} (e : goOn L Z ps u.2.1 u.2.2 [] = (p', r', f')) :
    Rch L Z (ts.set i (u.1, p', r')) (ps ++ f') ∧ Shut L Z (ps ++ f') (u.1, p', r') ∧ r'.length ≤ u.2.2.length ∧ ((u.1, p', r') = u → f' = []) ∧ ((u.1, p', r') ≠ u → r'.length < u.2.2.length) := by
  have hi : i < Z.2.length := by
    rw [← R.len]
    exact (List.getElem?_eq_some_iff.mp hu).1
  have ht : Z.2[i]? = some Z.2[i] := List.getElem?_eq_getElem hi
  generalize Z.2[i] = t at ht
  obtain ⟨k, h1, h2, h3, h4⟩ := R.tr i t ht
  rw [hu] at h1
  cases h1
  have hp0 : ∀ q ∈ ps ++ ([] : List Key2), Passed L Z q := fun q hq => R.pd q (by simpa using hq)
  obtain ⟨k', f2, c1, c2, c3, c4, c5, c6, _, c8, c9, c10⟩ := goOn_ok (ps := ps) (advP t.2.1 t.2.2 k).2 (advP t.2.1 t.2.2 k).1 k [] rfl h2 h3 hp0 (by rw [List.append_nil]; exact R.nd)
  have e : goOn L Z ps (advP t.2.1 t.2.2 k).1 (advP t.2.1 t.2.2 k).2 [] = (p', r', f') := e
  rw [c1] at e
  injection e with e1 e2
  injection e2 with e2 e3
  subst e3
  have eu : ((adv t k).1, p', r') = adv t k' := by
    unfold adv
    rw [← e1, ← e2]
  rw [eu]
  have l1 : (adv t k).2.2.length = t.2.2.length - k := advP_len _ _ _
  have l2 : r'.length = t.2.2.length - k' := by
    rw [← e2]
    exact advP_len _ _ _
  refine ⟨⟨by rw [List.length_set]; exact R.len, fun j v hv => ?_, c5, c6⟩, c9, by omega, fun z => ?_, fun z => ?_⟩
  · by_cases hj : i = j
    · subst hj
      rw [ht] at hv
      cases hv
      refine ⟨k', List.getElem?_set_self (by rw [R.len]; exact hi), c3, c4, fun j p hj hp => ?_⟩
      by_cases hk : j < k
      · exact List.mem_append_left _ (h4 j p hk hp)
      · exact c8 j p (by omega) hj hp
    · obtain ⟨k2, b1, b2, b3, b4⟩ := R.tr j v hv
      exact ⟨k2, by rw [List.getElem?_set_ne hj]; exact b1, b2, b3, fun j p hj hp => List.mem_append_left _ (b4 j p hj hp)⟩
  · exact c10 (adv_inj c3 h2 z)
  · have : k' ≠ k := fun y => z (by rw [y])
    omega
end Sx
set_option Elab.async false
set_option linter.all false
set_option maxRecDepth 100000
set_option maxHeartbeats 4000000
namespace Sx
open PySem PySem.Spec PyProof.Rows L2
open C8 (Cal pe_c)
def farB (L : Lin) (Z : Stn) (pl : Nm) (k : Key2) : Bool := match staffOf Z k with
  | none => false
  | some s => decide ((if s = k.2 then k.1 else k.2) = pl) || decide ((if s = k.2 then k.1 else k.2) ∈ wayOf L pl s)
noncomputable def homeB (L : Lin) (Z : Stn) (t : Trn) : Bool := @decide (Home L Z t) (Classical.propDecidable _)
def aheadD (f : List (Nm × Option Nm)) : List (Key × PyData) := f.map fun q => (kN q.1, oD nD q.2)
abbrev sp_came_from : Sp := spF fun ts Φ => ∃ (L : Lin) (a : Nm), ts = [.im (lD L), .im (nD a)] ∧ LinOk L ∧ a ∈ L.1 ∧ Φ = dt (.dK (aheadD (ahead L a)))
abbrev sp_way : Sp := spF fun ts Φ => ∃ (L : Lin) (a b : Nm), ts = [.im (lD L), .im (nD a), .im (nD b)] ∧ LinOk L ∧ a ∈ L.1 ∧ b ∈ L.1 ∧ Φ = dt (.im (sD (wayOf L a b)))
abbrev sp_is_far : Sp := spF fun ts Φ => ∃ (L : Lin) (Z : Stn) (a : Nm) (k : Key2), ts = [.im (lD L), stnTy Z, .im (nD a), .im (kD k)] ∧ LinOk L ∧ StnOk L Z ∧ a ∈ L.1 ∧ Φ = dt (.im (.bool (farB L Z a k)))
abbrev sp_gone_on : Sp := spF fun ts Φ => ∃ (L : Lin) (Z : Stn) (ps : List Key2) (u : Trn), ts = [.im (lD L), stnTy Z, .im (sD L.1), .im (.list (ps.map kD)), .im (tD u)] ∧ PsOk L u ∧ ps.length ≤ 1000 ∧
  Φ = dt (.im (.tuple [tD (u.1, (goOn L Z ps u.2.1 u.2.2 []).1, (goOn L Z ps u.2.1 u.2.2 []).2.1), .list ((goOn L Z ps u.2.1 u.2.2 []).2.2.map kD)]))
abbrev sp_run_of : Sp := spF fun ts Φ => ∃ (L : Lin) (Z : Stn), ts = [.im (lD L), stnTy Z, .im (sD L.1)] ∧ LinOk L ∧ StnOk L Z ∧ Φ = fun t => ∃ us ps os, RunEnd L Z us ps ∧ t = .im (.tuple [.list (ps.map kD), .list os, .list (us.map tD)])
abbrev sp_open_run : Sp := spF fun ts Φ => ∃ (L : Lin) (Z : Stn), ts = [.im (lD L), stnTy Z] ∧ LinOk L ∧ StnOk L Z ∧ Φ = fun t => ∃ us ps, RunEnd L Z us ps ∧ t = .im (.tuple [.tuple (ps.map kD), .tuple (us.map tD)])
abbrev sp_gets_home : Sp := spF fun ts Φ => ∃ (L : Lin) (Z : Stn) (t : Trn), ts = [.im (lD L), stnTy Z, .im (nD t.1)] ∧ LinOk L ∧ StnOk L Z ∧ t ∈ Z.2 ∧ Φ = dt (.im (.bool (homeB L Z t)))
theorem aheadD_val {f : List (Nm × Option Nm)} {n : Nm} {o : Option Nm} (h : f.find? (fun q => decide (q.1 = n)) = some (n, o)) : valD (aheadD f) (kN n) = some (oD nD o) := by
  unfold valD aheadD
  rw [List.find?_map]
  have e : ((fun q : Key × PyData => decide (q.1 = kN n)) ∘ fun q : Nm × Option Nm => (kN q.1, oD nD q.2)) = fun q : Nm × Option Nm => decide (q.1 = n) := by
    funext q
    exact dec_iff ⟨kN_inj, fun z => by rw [← z]⟩
  rw [e, h]
  rfl
theorem aheadD_keys (f : List (Nm × Option Nm)) (n : Nm) : kN n ∈ (aheadD f).map (·.1) ↔ n ∈ f.map (·.1) := by
  unfold aheadD
  rw [List.map_map, List.mem_map, List.mem_map]
  constructor
  · rintro ⟨q, hq, e⟩
    exact ⟨q, hq, kN_inj e⟩
  · rintro ⟨q, hq, e⟩
    exact ⟨q, hq, by rw [← e]; rfl⟩
theorem valD_iff {κ : Type} [DecidableEq κ] (kvs : List (κ × PyData)) (k : κ) : (valD kvs k).isSome = true ↔ k ∈ kvs.map (·.1) := by
  unfold valD
  rw [Option.isSome_map, List.find?_isSome, List.mem_map]
  exact ⟨fun ⟨q, h1, h2⟩ => ⟨q, h1, of_decide_eq_true h2⟩, fun ⟨q, h1, h2⟩ => ⟨q, h1, decide_eq_true h2⟩⟩
theorem dec_any {p : Prop} (i j : Decidable p) : @decide p i = @decide p j := by
  congr
theorem ndec_t {p : Prop} {i : Decidable p} (e : true = !decide p) : ¬ p := fun h => by
  rw [decide_eq_true h] at e
  cases e
theorem ndec_f {p : Prop} {i : Decidable p} (e : false = !decide p) : p := Decidable.byContradiction fun h => by
  rw [decide_eq_false h] at e
  cases e
theorem bnot_t {b : Bool} (h : (!b) = true) : ¬ b = true := by cases b <;> simp_all
theorem bnot_f {b : Bool} (h : (!b) = false) : b = true := by cases b <;> simp_all
theorem aheadD_put {f : List (Nm × Option Nm)} {n : Nm} (o : Option Nm) (h : n ∉ f.map (·.1)) : putD (aheadD f) (kN n) (oD nD o) = aheadD (f ++ [(n, o)]) := by
  unfold putD
  rw [if_neg fun z => h ((aheadD_keys f n).mp z)]
  unfold aheadD
  rw [List.map_append]
  rfl
theorem getLast_nil {α : Type} {l : List α} (h : l ≠ []) : ∃ a, l.getLast? = some a ∧ l = l.dropLast ++ [a] := ⟨l.getLast h, List.getLast?_eq_some_getLast h, (List.dropLast_concat_getLast h).symm⟩
section
variable {P : Program} {w : World} {K : PySem.W.Frag} {mg : Str → Option Value} {base : Heap}
abbrev s_came_from : Stmt := topS 9
abbrev N_came_from : List Str := ["line", "one", "found", "waiting", "station", "other"]
theorem sc_came_from : FnScope N_came_from ["line", "one"] (defScope s_came_from) := ⟨rfl, rfl, rfl, by decide +kernel, rfl, by decide +kernel, by decide +kernel⟩
theorem bd_came_from (B : Bl mg) (c_neighbours : Cal P w K mg base 2 "neighbours" sp_neighbours []) : Bod P w K mg base N_came_from "came_from" s_came_from 2 sp_came_from := fun f cdv A outer s H vs Q E hr h => by
  have hu := hu_of hr
  obtain ⟨x, ts, Φ, ⟨L, a, rfl, O, ha, rfl⟩, T, hh, q⟩ := h
  refine ⟨_, (pss_cons (ps_par (i := 2) (j := 3) rfl sc_came_from.nd rfl rfl (by decide) rfl rfl (pa_cons (pe_disp (pps_cons (pv 1) pe_non pps_nil) (by rfl) (by rfl) (fun z => by cases z) (by decide)) (pa_cons (pe_lst (pa_cons (pv 1) pa_nil)) pa_nil)) (by rfl))
    (pss_cons (ps_while PassesOwn.never (pt_cmpR (op_neD hr.units) (pv 3) (pe_lst pa_nil) (nomark _))
      (pss_cons (ps_set (i := 4) sc_came_from.nd rfl (Or.inl rfl) (pe_bm0 PySem.F.plainAttrs_list PySem.F.slot_list_pop PySem.F.type_list_pop mt_pop (pv 3)))
      (pss_cons (ps_for PassesOwn.never rfl (pi_tup (pe_c c_neighbours hr (by decide) (by rfl) (pa_cons (pv 0) (pa_cons (pv 4) pa_nil)))) (pg_name (i := 5) sc_came_from.nd rfl (Or.inl rfl))
        (pss_cons (ps_if (pt_cmp (pc_dnotin hu (pv 5) (pv 2)) rfl)
          (pss_cons (ps_dput hu (pv 2) (pv 5) (pv 4) rfl)
          (pss_cons (ps_expr (pe_bm PySem.F.plainAttrs_list PySem.F.slot_list_append PySem.F.type_list_append mt_append (pv 3) (pa_cons (pv 5) pa_nil)))
          pss_nil))
          pss_nil)
        pss_nil))
      pss_nil)))
    (pss_cons (ps_ret (pv 2))
    pss_nil))), ?_⟩
  refine start_F (N := N_came_from) T hh ?_
  have R := ret_F q
  refine tr_par (by show 2 < 6; decide) (by show 3 < 6; decide) (am_consM (em_disp (n := a) (d := .none) (fun p => ev_var rfl) (fun p => ev_non)) fun p m e => am_consM (Φm := fun m => m = .lst [nD a]) (em_lst1 (ev_var rfl)) fun p2 m2 e2 => am_nil) fun ts l ⟨p, m, r, l', e1, e2, e3, p2, m2, r2, l2, e4, e5, e6, e7, e8⟩ => ?_
  subst e8 e7 e6 e5 e4 e3 e2 e1
  refine ⟨_, _, rfl, ?_⟩
  refine tr_while (fun m s => ∃ n t4 t5, n + m = L.1.length ∧ s = ⟨[.im (lD L), .im (nD a), .rf p, .rf p2, t4, t5], [(p2, .lst ((cfN L a n).w.map nD)), (p, .dK (aheadD (cfN L a n).f))], none⟩ ∧ (m + (cfN L a n).f.length = L.1.length + (cfN L a n).w.length)) (L.1.length) ⟨0, .any, .any, by omega, rfl, by simp [cfN]⟩ (fun _ _ ⟨_, _, _, _, e, _⟩ => by rw [e]) ?_
  rintro H1 Bs m s ⟨n, t4, t5, hnm, rfl, hm⟩
  obtain ⟨C, _, _⟩ := cf_ok O ha n
  have hfl := C.len O ha
  have hsn := O.sn
  by_cases hw : (cfN L a n).w = []
  · refine ⟨fun b => b = false, ?_, (fun e => by cases e), fun _ => ?_⟩
    · rw [hw]
      exact et_frz (i := 3) rfl (et_test (ev_neE encS.ll (a := []) (b := []) (ev_var rfl) ev_lst0))
    · refine tr_frz (i := 3) rfl (tr_frz (i := 2) rfl (tr_retE (R.later Bs) (ev_var rfl) ?_))
      rw [← cf_end O ha hw (by omega)]
      rfl
  · refine ⟨fun b => b = true, ?_, fun _ => ?_, (fun e => by cases e)⟩
    · refine (et_frz (i := 3) rfl (et_test (ev_neE encS.ll (a := (cfN L a n).w) (b := []) (ev_var rfl) ev_lst0))).eq ?_
      rw [decide_eq_false hw]
      rfl
    · obtain ⟨st, h1, h2⟩ := getLast_nil hw
      have hst : st ∈ (cfN L a n).f.map (·.1) := C.ws st (by rw [h2]; exact List.mem_append_right _ (List.mem_singleton.mpr rfl))
      have hlen : (cfN L a n).w.length = (cfN L a n).w.dropLast.length + 1 := by
        have := congrArg List.length h2
        rwa [List.length_append] at this
      refine tr_pop (i := 3) (j := 4) (d := nD st) rfl (by show 4 < 6; decide) ?_ ?_
      · rw [List.length_map, List.getElem?_map, ← List.getLast?_eq_getElem?, h1]
        rfl
      have hnb : (nbrs L st).length ≤ 200 := by
        have h1 := flat_len (nbOne_len st) (keysL L)
        have h2 := O.sl
        unfold nbrs
        rw [List.length_mergeSort]
        have h3 : (keysL L).length = L.2.length := List.length_map _
        omega
      have en : cfN L a (n + 1) = (nbrs L st).foldl (cfAdd st) ⟨(cfN L a n).f, (cfN L a n).w.dropLast⟩ := by
        show cfStep L (cfN L a n) = _
        unfold cfStep
        rw [h1]
      have h0 : CfOk L a ⟨(cfN L a n).f, (cfN L a n).w.dropLast⟩ := ⟨C.nd, C.sb, fun x m => C.ws x (List.dropLast_subset _ m), C.up, C.rt, C.hd⟩
      rw [← List.map_dropLast]
      generalize hc0 : (⟨(cfN L a n).f, (cfN L a n).w.dropLast⟩ : CF) = c0 at en h0
      have e1 : (cfN L a n).f = c0.f := by rw [← hc0]
      have e2 : (cfN L a n).w.dropLast = c0.w := by rw [← hc0]
      rw [e1, e2]
      rw [e1] at hst hm hfl
      rw [e2] at hlen
      refine tr_forE (as := nbrs L st) (f := nD) (srcT (ev_c (ts := [.im (lD L), .im (nD st)]) (ea_cons (ev_var rfl) (ea_cons (ev_var rfl) ea_nil)) ⟨L, st, rfl, O.sl, rfl⟩)) (fun i s => ∃ t5, s = ⟨[.im (lD L), .im (nD a), .rf p, .rf p2, .im (nD st), t5], [(p2, .lst ((((nbrs L st).take i).foldl (cfAdd st) c0).w.map nD)), (p, .dK (aheadD (((nbrs L st).take i).foldl (cfAdd st) c0).f))], none⟩) ⟨_, rfl⟩ (fun _ _ ⟨_, e⟩ => by rw [e]) ?_ ?_
      · rintro H2 Bs2 i o _ he ⟨t5, rfl⟩
        obtain ⟨k1, k2, _, _, _, k6⟩ := cfFold_ok ((nbrs L st).take i) h0 hst fun o m => nbrs_st O ha (List.mem_of_mem_take m)
        have ef : ((nbrs L st).take (i + 1)).foldl (cfAdd st) c0 = cfAdd st (((nbrs L st).take i).foldl (cfAdd st) c0) o := by
          rw [take_next he, List.foldl_append]
          rfl
        rw [ef]
        generalize ((nbrs L st).take i).foldl (cfAdd st) c0 = c at k1 k2 k6
        have cl := k1.len O ha
        refine ⟨_, _, bd_name (by show 5 < 6; decide), ?_⟩
        refine tr_ifD (et_B (ev_dniK (n := o) (kvs := aheadD c.f) (ev_var rfl) (dk_mineK rfl))) (fun e => ?_) fun e => ?_
        · have hno : o ∉ c.f.map (·.1) := fun z => bnot_t e ((valD_iff _ _).mpr ((aheadD_keys c.f o).mpr z))
          have ea : cfAdd st c o = ⟨c.f ++ [(o, some st)], c.w ++ [o]⟩ := by
            unfold cfAdd
            rw [if_neg hno]
          rw [ea]
          refine tr_swap (tr_dputK (n := o) rfl (by unfold aheadD; rw [List.length_map]; omega) (ev_var (t := .im (nD st)) rfl) (ev_var rfl) fun t et => ⟨_, et, ?_⟩)
          rw [show nD st = oD nD (some st) from rfl, aheadD_put (some st) hno]
          refine tr_swap (tr_app rfl (by rw [List.length_map]; omega) (ev_var (t := .im (nD o)) rfl) fun t et => ⟨_, et, tr_next fun σ H S => ⟨_, ⟨.im (nD o), rfl⟩, ?_⟩⟩)
          rw [List.map_append]
          exact S
        · have hyes : o ∈ c.f.map (·.1) := (aheadD_keys c.f o).mp ((valD_iff _ _).mp (bnot_f e))
          have ea : cfAdd st c o = c := by
            unfold cfAdd
            rw [if_pos hyes]
          rw [ea]
          exact tr_next fun σ H S => ⟨_, ⟨_, rfl⟩, S⟩
      · rintro _ ⟨t5, rfl⟩
        obtain ⟨_, _, _, _, _, k6⟩ := cfFold_ok (nbrs L st) h0 hst fun o m => nbrs_st O ha m
        rw [List.take_length, ← en]
        rw [← en] at k6
        exact tr_next fun σ H S => ⟨_, ⟨m - 1, by omega, n + 1, _, _, by omega, rfl, by omega⟩, S⟩
abbrev s_way : Stmt := topS 10
abbrev N_way : List Str := ["line", "one", "other", "ahead", "found"]
theorem sc_way : FnScope N_way ["line", "one", "other"] (defScope s_way) := ⟨rfl, rfl, rfl, by decide +kernel, rfl, by decide +kernel, by decide +kernel⟩
theorem bd_way (B : Bl mg) (c_came_from : Cal P w K mg base 3 "came_from" sp_came_from []) : Bod P w K mg base N_way "way" s_way 3 sp_way := fun f cdv A outer s H vs Q E hr h => by
  have hu := hu_of hr
  obtain ⟨x, ts, Φ, ⟨L, a, b, rfl, O, ha, hb, rfl⟩, T, hh, q⟩ := h
  refine ⟨_, (pss_cons (ps_par (i := 3) (j := 4) rfl sc_way.nd rfl rfl (by decide) rfl rfl (pa_cons (pe_c c_came_from hr (by decide) (by rfl) (pa_cons (pv 0) (pa_cons (pv 1) pa_nil))) (pa_cons (pe_lst pa_nil) pa_nil)) (by rfl))
    (pss_cons (ps_while PassesOwn.never (pt_cmpR (op_neD hr.units) (pv 2) (pv 1) (nomark _))
      (pss_cons (ps_expr (pe_bm PySem.F.plainAttrs_list PySem.F.slot_list_append PySem.F.type_list_append mt_append (pv 4) (pa_cons (pv 2) pa_nil)))
      (pss_cons (ps_set (i := 2) sc_way.nd rfl (Or.inl rfl) (pe_dget hu (pv 3) (pv 2) (fun _ _ => rfl)))
      pss_nil)))
    (pss_cons (ps_ret (pe_callTy call_tuple_of (by rfl) B.m_tuple (by decide +kernel) (pa_cons (pe_revL (pv 4)) pa_nil)))
    pss_nil))), ?_⟩
  refine start_F (N := N_way) T hh ?_
  have R := ret_F q
  have C := ahead_ok O ha
  refine tr_par (by show 3 < 5; decide) (by show 4 < 5; decide) (am_consD (Φ := dt (.dK (aheadD (ahead L a)))) (ev_c (ts := [.im (lD L), .im (nD a)]) (ea_cons (ev_var rfl) (ea_cons (ev_var rfl) ea_nil)) ⟨L, a, rfl, O, ha, rfl⟩) (am_consM em_lst0 fun p m e => am_nil)) fun ts l ⟨t, r, e1, e2, p, m, r2, l2, e3, e4, e5, e6, e7⟩ => ?_
  subst e7 e6 e5 e4 e3 e2 e1
  refine ⟨_, _, rfl, ?_⟩
  have hidx : ∀ o : Nm, o ∈ (ahead L a).map (·.1) → ∃ (j : Nat) (pp : Option Nm), (ahead L a)[j]? = some (o, pp) ∧ j < (ahead L a).length := fun o ho => by
    obtain ⟨q, hq, e⟩ := List.mem_map.mp ho
    obtain ⟨j, hj, e2⟩ := List.getElem_of_mem hq
    refine ⟨j, q.2, ?_, hj⟩
    rw [List.getElem?_eq_getElem hj, e2, ← e]
  have hal : (ahead L a).length ≤ 24 := Nat.le_trans (C.len O ha) O.sn
  obtain ⟨j0, pp0, hj0, hl0⟩ := hidx b (ahead_all O ha hb)
  refine tr_while (fun m s => ∃ (o : Nm) (acc : List Nm) (n : Nat) (pp : Option Nm), (ahead L a)[m]? = some (o, pp) ∧ m < n ∧ n ≤ 100 ∧ acc.length + n = 100 ∧ acc ++ wayGo (ahead L a) a n o = wayGo (ahead L a) a 100 b ∧
    s = ⟨[.im (lD L), .im (nD a), .im (nD o), .dK (aheadD (ahead L a)), .rf p], [(p, .lst (acc.map nD))], none⟩) j0 ⟨b, [], 100, pp0, hj0, by omega, by omega, rfl, rfl, rfl⟩ (fun _ _ ⟨_, _, _, _, _, _, _, _, _, e⟩ => by rw [e]) ?_
  rintro H1 Bs m s ⟨o, acc, n, pp, hm, hmn, hn, hal2, hw, rfl⟩
  refine ⟨fun b => b = !decide (o = a), et_test (ev_neE encS (ev_var rfl) (ev_var rfl)), fun e => ?_, fun e => ?_⟩
  · have hne : o ≠ a := ndec_t e
    cases pp with
    | none => exact absurd (C.rt m o hm) hne
    | some st =>
      obtain ⟨i, p2, hi, hs⟩ := C.up m o st hm
      refine tr_app rfl (by rw [List.length_map]; omega) (ev_var (t := .im (nD o)) rfl) fun t et => ⟨_, et, ?_⟩
      have hf := find_nodup C.nd hm
      refine tr_asgD (by show 2 < 5; decide) (ev_dgetK (n := o) (d := nD st) (dk_dataK (ev_var rfl)) (ev_var rfl) (aheadD_val hf)) ?_
      refine tr_next fun σ H S => ⟨_, ⟨i, hi, st, acc ++ [o], n - 1, p2, hs, by omega, by omega, by rw [List.length_append, List.length_singleton]; omega, ?_, rfl⟩, ?_⟩
      · rw [← hw, List.append_assoc]
        congr 1
        obtain ⟨n', rfl⟩ : ∃ n', n = n' + 1 := ⟨n - 1, by omega⟩
        show [o] ++ wayGo (ahead L a) a n' st = wayGo (ahead L a) a (n' + 1) o
        conv => rhs; unfold wayGo
        rw [if_neg hne]
        have hf : (ahead L a).find? (fun q => decide (q.1 = o)) = some (o, some st) := hf
        rw [hf]
        rfl
      · rw [List.map_append]
        exact S
  · have heq : o = a := ndec_f e
    refine tr_frz (i := 4) rfl (tr_retE (R.later Bs) (ev_tupL (ev_rev (ds := acc.map nD) (ev_var rfl))) ?_)
    obtain ⟨n', rfl⟩ : ∃ n', n = n' + 1 := ⟨n - 1, by omega⟩
    have e0 : wayGo (ahead L a) a (n' + 1) o = [] := by
      unfold wayGo
      rw [if_pos heq]
    rw [e0, List.append_nil] at hw
    unfold wayOf
    rw [← hw, ← List.map_reverse]
    rfl
abbrev s_is_far : Stmt := topS 29
abbrev N_is_far : List Str := ["line", "standing", "place", "key", "staff", "near"]
theorem sc_is_far : FnScope N_is_far ["line", "standing", "place", "key"] (defScope s_is_far) := ⟨rfl, rfl, rfl, by decide +kernel, rfl, by decide +kernel, by decide +kernel⟩
theorem bd_is_far (B : Bl mg) (c_staff_of : Cal P w K mg base 1 "staff_of" sp_staff_of []) (c_way : Cal P w K mg base 4 "way" sp_way []) : Bod P w K mg base N_is_far "is_far" s_is_far 4 sp_is_far := fun f cdv A outer s H vs Q E hr h => by
  have hu := hu_of hr
  obtain ⟨x, ts, Φ, ⟨L, Z, a, k, rfl, O, OZ, ha, rfl⟩, T, hh, q⟩ := h
  refine ⟨_, (pss_cons (ps_set (i := 4) sc_is_far.nd rfl (Or.inl rfl) (pe_c c_staff_of hr (by decide) (by rfl) (pa_cons (pv 1) (pa_cons (pv 3) pa_nil))))
    (pss_cons (ps_if (pt_cmpR op_isN (pv 4) pe_non (nomark _))
      (pss_cons (ps_ret pe_bl)
      pss_nil)
      pss_nil)
    (pss_cons (ps_set (i := 5) sc_is_far.nd rfl (Or.inl rfl) (pe_ifExp (pt_cmpR (op_eqD hr.units) (pv 4) (pe_ix ix_tup (pv 3) pe_int (fun _ _ => rfl)) (nomark _)) (pe_ix ix_tup (pv 3) pe_int (fun _ _ => rfl)) (pe_ix ix_tup (pv 3) pe_int (fun _ _ => rfl))))
    (pss_cons (ps_ret (pe_or (pe_cmpR (op_eqD hr.units) (pv 5) (pv 2) (nomark _)) (pe_one (pe_cmpR (op_inTD hr.units1) (pv 5) (pe_c c_way hr (by decide) (by rfl) (pa_cons (pv 0) (pa_cons (pv 2) (pa_cons (pv 4) pa_nil)))) (by with_unfolding_all rfl)))))
    pss_nil)))), ?_⟩
  refine start_F (N := N_is_far) T hh ?_
  have R := ret_F q
  refine tr_asgD (by show 4 < 6; decide) (ev_c (ts := [stnTy Z, .im (kD k)]) (ea_cons (ev_var rfl) (ea_cons (ev_var rfl) ea_nil)) ⟨Z, k, rfl, rfl⟩) ?_
  unfold farB at R
  cases e : staffOf Z k with
  | none =>
    rw [e] at R
    refine tr_ifD (b := true) (et_test (ev_opD (ev_var (t := .im .none) rfl) ev_non (rd_isN (.inl ⟨rfl, rfl⟩)))) (fun _ => ?_) (fun e => by cases e)
    exact tr_retE R ev_bl
  | some s =>
    rw [e] at R
    refine tr_ifD (b := false) (et_test (ev_opD (ev_var (t := .im (nD s)) rfl) ev_non (rd_isN (.inr ⟨⟨_, rfl⟩, rfl⟩)))) (fun e => by cases e) fun _ => tr_end ?_
    refine tr_asgD (t := .im (nD (if s = k.2 then k.1 else k.2))) (by show 5 < 6; decide) (ev_if (et_test (ev_eqE encS (a := s) (b := k.2) (ev_var rfl) (ev_ixT (ev_var (t := .im (kD k)) rfl)))) (fun e => ?_) fun e => ?_) ?_
    · rw [if_pos (of_decide_eq_true e.symm)]
      exact ev_ixT (ev_var (t := .im (kD k)) rfl)
    · rw [if_neg (of_decide_eq_false e.symm)]
      exact ev_ixT (ev_var (t := .im (kD k)) rfl)
    have R2 : Ret H x none (dt (.im (.bool (decide ((if s = k.2 then k.1 else k.2) = a) || decide ((if s = k.2 then k.1 else k.2) ∈ wayOf L a s))))) Q := R
    generalize (if s = k.2 then k.1 else k.2) = near at R2 ⊢
    exact tr_retE R2 (ev_orV (ev_eqE encS (a := near) (b := a) (ev_var rfl) (ev_var rfl)) fun _ => ev_opD (ev_var rfl) (ev_c (ts := [.im (lD L), .im (nD a), .im (nD s)]) (ea_cons (ev_var rfl) (ea_cons (ev_var rfl) (ea_cons (ev_var rfl) ea_nil))) ⟨L, a, s, rfl, O, ha, OZ.sf k s e, rfl⟩) (rd_inT encS (a := near) (as := wayOf L a s))) (congrArg (fun b => Ty.im (.bool (_ || b))) (dec_any _ _))
abbrev s_gone_on : Stmt := topS 22
abbrev N_gone_on : List Str := ["line", "standing", "part", "passed", "train", "name", "place", "rest", "firsts", "key"]
theorem sc_gone_on : FnScope N_gone_on ["line", "standing", "part", "passed", "train"] (defScope s_gone_on) := ⟨rfl, rfl, rfl, by decide +kernel, rfl, by decide +kernel, by decide +kernel⟩
theorem bd_gone_on (B : Bl mg) (c_lies_open : Cal P w K mg base 4 "lies_open" sp_lies_open []) (c_key_of : Cal P w K mg base 1 "key_of" sp_key_of []) : Bod P w K mg base N_gone_on "gone_on" s_gone_on 4 sp_gone_on := fun f cdv A outer s H vs Q E hr h => by
  have hu := hu_of hr
  obtain ⟨x, ts, Φ, ⟨L, Z, ps, u, rfl, O, hz, rfl⟩, T, hh, q⟩ := h
  refine ⟨_, (pss_cons (ps_asg (pv 4) (pg_tup rfl (pgs_cons (pg_name (i := 5) sc_gone_on.nd rfl (Or.inl rfl)) (pgs_cons (pg_name (i := 6) sc_gone_on.nd rfl (Or.inl rfl)) (pgs_cons (pg_name (i := 7) sc_gone_on.nd rfl (Or.inl rfl)) pgs_nil)))))
    (pss_cons (ps_set (i := 8) sc_gone_on.nd rfl (Or.inl rfl) (pe_lst pa_nil))
    (pss_cons (ps_while PassesOwn.never (PW.pt (pw_and (pt_cmpR (op_neD hr.units) (pv 7) (pe_tup pa_nil) (nomark _)) (pw_and (pt_cmpR (op_inTD hr.units1) (pv 6) (pv 2) (by with_unfolding_all rfl)) (pw_and1 (pt_val (pe_c c_lies_open hr (by decide) (by rfl) (pa_cons (pv 0) (pa_cons (pv 1) (pa_cons (pe_op op_cat (pv 3) (pv 8)) (pa_cons (pv 6) (pa_cons (pe_ix ix_tup (pv 7) pe_int (fun _ _ => rfl)) pa_nil)))))))))))
      (pss_cons (ps_set (i := 9) sc_gone_on.nd rfl (Or.inl rfl) (pe_c c_key_of hr (by decide) (by rfl) (pa_cons (pv 6) (pa_cons (pe_ix ix_tup (pv 7) pe_int (fun _ _ => rfl)) pa_nil))))
      (pss_cons (ps_if (PW.pt (pw_and (pt_cmpR (op_notInD hr.units1) (pv 9) (pv 3) (by with_unfolding_all rfl)) (pw_and1 (pt_cmpR (op_notInD hr.units1) (pv 9) (pv 8) (by with_unfolding_all rfl)))))
        (pss_cons (ps_expr (pe_bm PySem.F.plainAttrs_list PySem.F.slot_list_append PySem.F.type_list_append mt_append (pv 8) (pa_cons (pv 9) pa_nil)))
        pss_nil)
        pss_nil)
      (pss_cons (ps_par (i := 6) (j := 7) rfl sc_gone_on.nd rfl rfl (by decide) rfl rfl (pa_cons (pe_ix ix_tup (pv 7) pe_int (fun _ _ => rfl)) (pa_cons (pe_slice sl_tupA (pv 7) (po_some pe_int) po_none) pa_nil)) (by rfl))
      pss_nil))))
    (pss_cons (ps_ret (pe_tup (pa_cons (pe_tup (pa_cons (pv 5) (pa_cons (pv 6) (pa_cons (pv 7) pa_nil)))) (pa_cons (pv 8) pa_nil))))
    pss_nil)))), ?_⟩
  refine start_F (N := N_gone_on) T hh ?_
  have R := ret_F q
  refine tr_asgTD (ev_var (t := .im (tD u)) rfl) (bd_tup (bds_cons (bd_name (by show 5 < 10; decide)) (bds_cons (bd_name (by show 6 < 10; decide)) (bds_cons (bd_name (by show 7 < 10; decide)) bds_nil)))) ?_
  refine tr_asgM (by show 8 < 10; decide) em_lst0 fun p m e => ?_
  subst e
  refine tr_while (fun m s => ∃ (pl : Nm) (rs : List Nm) (f : List Key2) (t9 : Ty), rs.length = m ∧ goOn L Z ps pl rs f = goOn L Z ps u.2.1 u.2.2 [] ∧ pl ∈ L.1 ∧ (∀ x ∈ rs, x ∈ L.1) ∧ (∀ q ∈ pf pl rs, ∃ s, sortOf L (keyP q) = some s) ∧ f.length + rs.length ≤ 100 ∧
    s = ⟨[.im (lD L), stnTy Z, .im (sD L.1), .im (.list (ps.map kD)), .im (tD u), .im (nD u.1), .im (nD pl), .im (sD rs), .rf p, t9], [(p, .lst (f.map kD))], none⟩) u.2.2.length ⟨u.2.1, u.2.2, [], .any, rfl, rfl, O.pl, O.st, O.wk, by have := O.rl; simp; omega, rfl⟩ (fun _ _ ⟨_, _, _, _, _, _, _, _, _, _, e⟩ => by subst e; rfl) ?_
  rintro H1 Bs m s ⟨pl, rs, f, t9, rfl, hg, hpl, hrs, hpf, hfl, rfl⟩
  cases rs with
  | nil =>
    refine ⟨fun b => b = false, ?_, (fun e => by cases e), fun _ => ?_⟩
    · exact (et_and (b := true) (et_test (ev_neE encSs (a := []) (b := []) (ev_var rfl) ev_tup0)) (fun e => by simp at e)).eq (b := false) (by simp)
    · refine tr_frz (i := 8) rfl (tr_retE (R.later Bs) (ev_tup2 (ev_tup3 (ev_var (t := .im (nD u.1)) rfl) (ev_var (t := .im (nD pl)) rfl) (ev_var (t := .im (sD [])) rfl)) (ev_var (t := .im (.list (f.map kD))) rfl)) ?_)
      rw [← hg]
      rfl
  | cons r rs =>
    obtain ⟨sk, hsk⟩ := hpf (pl, r) List.mem_cons_self
    refine ⟨fun b => b = openB L Z (ps ++ f) pl r, ?_, fun e => ?_, fun e => ?_⟩
    · refine et_frz (i := 8) rfl ((et_and (et_test (ev_neE encSs (a := r :: rs) (b := []) (ev_var rfl) ev_tup0)) fun _ => et_and (et_test (ev_opD (ev_var rfl) (ev_var rfl) (rd_inT encS (a := pl) (as := L.1)))) fun _ => et_B (ev_c (ts := [.im (lD L), stnTy Z, .im (.list ((ps ++ f).map kD)), .im (nD pl), .im (nD r)]) (ea_cons (ev_var rfl) (ea_cons (ev_var rfl) (ea_cons ((ev_opD (ev_var rfl) (ev_var rfl) (rd_catL (ds := ps.map kD) (es := f.map kD) (by rw [List.length_map, List.length_map]; rw [List.length_cons] at hfl; omega))).eq (congrArg (fun z => Ty.im (.list z)) List.map_append.symm)) (ea_cons (ev_var rfl) (ea_cons (ev_head (f := nD) (a := r) (as := rs) (ev_var rfl)) ea_nil))))) ⟨L, Z, ps ++ f, pl, r, sk, rfl, hsk, rfl⟩)).eq ?_)
      simp [hpl]
    · have ho : openB L Z (ps ++ f) pl r = true := e.symm
      have hps : ps.length ≤ 1000 := hz
      have hg2 : goOn L Z ps pl (r :: rs) f = goOn L Z ps r rs (if keyOf pl r ∈ ps ++ f then f else f ++ [keyOf pl r]) := by
        conv => lhs; unfold goOn
        rw [if_pos ho]
      rw [hg2] at hg
      refine tr_asgD (by show 9 < 10; decide) (ev_c (ts := [.im (nD pl), .im (nD r)]) (ea_cons (ev_var rfl) (ea_cons (ev_head (f := nD) (a := r) (as := rs) (ev_var rfl)) ea_nil)) ⟨pl, r, rfl, rfl⟩) ?_
      have hl2 : (if keyOf pl r ∈ ps ++ f then f else f ++ [keyOf pl r]).length + rs.length ≤ 100 := by
        rw [List.length_cons] at hfl
        split
        · omega
        · rw [List.length_append, List.length_singleton]
          omega
      refine tr_ifJ (fun s => s = ⟨[.im (lD L), stnTy Z, .im (sD L.1), .im (.list (ps.map kD)), .im (tD u), .im (nD u.1), .im (nD pl), .im (sD (r :: rs)), .rf p, .im (kD (keyOf pl r))], [(p, .lst ((if keyOf pl r ∈ ps ++ f then f else f ++ [keyOf pl r]).map kD))], none⟩)
        (et_frz (i := 8) rfl (et_and (et_test (ev_opD (ev_var rfl) (ev_var rfl) (rd_ni encK (a := keyOf pl r) (as := ps)))) fun _ => et_test (ev_opD (ev_var rfl) (ev_var rfl) (rd_ni encK (a := keyOf pl r) (as := f))))) (fun kk e => ?_) (fun kk e => ?_) ?_
      · have hn : keyOf pl r ∉ ps ++ f := by
          rw [Bool.and_eq_true] at e
          intro m
          rcases List.mem_append.mp m with m | m
          · exact ndec_t e.1.symm m
          · exact ndec_t e.2.symm m
        rw [if_neg hn] at kk
        refine tr_app rfl (by rw [List.length_map]; omega) (ev_var (t := .im (kD (keyOf pl r))) rfl) fun t et => ⟨_, et, kk _ ?_⟩
        rw [List.map_append]
        rfl
      · have hn : keyOf pl r ∈ ps ++ f := by
          rw [Bool.and_eq_false_iff] at e
          rcases e with e | e
          · exact List.mem_append_left _ (ndec_f e.symm)
          · exact List.mem_append_right _ (ndec_f e.symm)
        rw [if_pos hn] at kk
        exact kk _ rfl
      · rintro _ rfl
        refine tr_parD (by show 6 < 10; decide) (by show 7 < 10; decide) (ev_head (f := nD) (a := r) (as := rs) (ev_var rfl)) (ev_tail (f := nD) (a := r) (as := rs) (ev_var rfl)) ?_
        exact tr_next fun σ H S => ⟨_, ⟨rs.length, by rw [List.length_cons]; omega, r, rs, _, _, rfl, hg, hrs r List.mem_cons_self, fun x m => hrs x (List.mem_cons_of_mem _ m), fun q m => hpf q (List.mem_cons_of_mem _ m), hl2, rfl⟩, S⟩
    · have ho : openB L Z (ps ++ f) pl r = false := e.symm
      refine tr_frz (i := 8) rfl (tr_retE (R.later Bs) (ev_tup2 (ev_tup3 (ev_var (t := .im (nD u.1)) rfl) (ev_var (t := .im (nD pl)) rfl) (ev_var (t := .im (sD (r :: rs))) rfl)) (ev_var (t := .im (.list (f.map kD))) rfl)) ?_)
      have e0 : goOn L Z ps pl (r :: rs) f = (pl, r :: rs, f) := by
        unfold goOn
        rw [if_neg (by rw [ho]; exact Bool.false_ne_true)]
      rw [← hg, e0]
      rfl
end
end Sx
set_option Elab.async false
set_option linter.all false
set_option maxRecDepth 100000
set_option maxHeartbeats 4000000
namespace Sx
open PySem PySem.Spec PyProof.Rows L2
open C8 (Cal pe_c)
theorem set_same {α : Type} {vs : List α} {i : Nat} {u : α} (h : vs[i]? = some u) : vs.set i u = vs := by
  obtain ⟨hi, e⟩ := List.getElem?_eq_some_iff.mp h
  rw [← e]
  exact List.set_getElem_self hi
theorem find_train {Z : Stn} (h : (Z.2.map (·.1)).Nodup) {t : Trn} (ht : t ∈ Z.2) : trainOf Z t.1 = some t := by
  obtain ⟨i, hi⟩ := List.getElem?_of_mem ht
  exact find_nodup (f := Z.2) h (o := t.1) (p := t.2) hi
theorem filter_nodup {us : List Trn} (h : (us.map (·.1)).Nodup) {u : Trn} (hu : u ∈ us) : us.filter (fun v => decide (v.1 = u.1)) = [u] := by
  induction us with
  | nil => cases hu
  | cons v us ih =>
    rw [List.map_cons, List.nodup_cons] at h
    rcases List.mem_cons.mp hu with e | e
    · subst e
      rw [List.filter_cons_of_pos (by simp)]
      congr 1
      refine List.filter_eq_nil_iff.mpr fun w hw z => h.1 ?_
      rw [← of_decide_eq_true z]
      exact List.mem_map.mpr ⟨w, hw, rfl⟩
    · rw [List.filter_cons_of_neg]
      · exact ih h.2 e
      · intro z
        exact h.1 (by rw [of_decide_eq_true z]; exact List.mem_map.mpr ⟨u, e, rfl⟩)
section
variable {P : Program} {w : World} {K : PySem.W.Frag} {mg : Str → Option Value} {base : Heap}
abbrev s_run_of : Stmt := topS 23
abbrev N_run_of : List Str := ["line", "standing", "part", "train", "trains", "passed", "openers", "is_on", "at", "firsts", "key"]
theorem sc_run_of : FnScope N_run_of ["line", "standing", "part"] (defScope s_run_of) := ⟨rfl, rfl, rfl, by decide +kernel, rfl, by decide +kernel, by decide +kernel⟩
theorem bd_run_of (B : Bl mg) (c_gone_on : Cal P w K mg base 5 "gone_on" sp_gone_on []) : Bod P w K mg base N_run_of "run_of" s_run_of 5 sp_run_of := fun f cdv A outer s H vs Q E hr h => by
  have hu := hu_of hr
  obtain ⟨x, ts, Φ, ⟨L, Z, rfl, O, OZ, rfl⟩, T, hh, q⟩ := h
  refine ⟨_, (pss_cons (ps_setLc (i := 4) (own := [("train", 3)]) (g := (gName 3)) (tt := (tTest (tOp (rInTD K) (tOp (rIxT K) (tVar 3) (tC (.int 1))) (tVar 2)))) (te := (tVar 3)) rfl sc_run_of.nd rfl rfl (sw_true rfl rfl rfl (by decide +kernel)) (pi_tup (pe_ix ix_tup (pv 1) pe_int (fun _ _ => rfl))) (blkOk_by (own := [("train", 3)]) (N := N_run_of) (sc := defScope s_run_of) (by decide +kernel)) (fun _ _ _ _ _ => (pg_name (i := 3) sc_run_of.nd rfl (Or.inl rfl))) (fun _ _ _ _ _ => (pts_one (pt_cmpR (op_inTD hr.units1) (pe_ix ix_tup (pv 3) pe_int (fun _ _ => rfl)) (pv 2) (by with_unfolding_all rfl)))) (fun _ _ _ _ _ => (pv 3)))
    (pss_cons (ps_par3 (i := 5) (j := 6) (l := 7) rfl sc_run_of.nd rfl rfl rfl (by decide) (by decide) (by decide) rfl rfl rfl (pa_cons (pe_lst pa_nil) (pa_cons (pe_lst pa_nil) (pa_cons pe_bl pa_nil))) (by rfl))
    (pss_cons (ps_while PassesOwn.never (pt_val (pv 7))
      (pss_cons (ps_set (i := 7) sc_run_of.nd rfl (Or.inl rfl) pe_bl)
      (pss_cons (ps_for PassesOwn.never rfl (pi_range1 (by rfl) B.m_range (pa_cons (pe_callB call_len_seq (by rfl) B.m_len PySem.boot_len (pa_cons (pv 4) pa_nil)) pa_nil)) (pg_name (i := 8) sc_run_of.nd rfl (Or.inl rfl))
        (pss_cons (ps_asg (pe_c c_gone_on hr (by decide) (by rfl) (pa_cons (pv 0) (pa_cons (pv 1) (pa_cons (pv 2) (pa_cons (pv 5) (pa_cons (pe_ix ix_list (pv 4) (pv 8) (fun _ _ => rfl)) pa_nil)))))) (pg_tup rfl (pgs_cons (pg_name (i := 3) sc_run_of.nd rfl (Or.inr rfl)) (pgs_cons (pg_name (i := 9) sc_run_of.nd rfl (Or.inl rfl)) pgs_nil))))
        (pss_cons (ps_set (i := 7) sc_run_of.nd rfl (Or.inl rfl) (pe_or (pv 7) (pe_one (pe_cmpR (op_neD hr.units) (pv 3) (pe_ix ix_list (pv 4) (pv 8) (fun _ _ => rfl)) (nomark _)))))
        (pss_cons (ps_asg (pv 3) (pg_sub (pv 4) (pv 8) set_list))
        (pss_cons (ps_set (i := 5) sc_run_of.nd rfl (Or.inl rfl) (pe_op op_cat (pv 5) (pv 9)))
        (pss_cons (ps_expr (pe_bm PySem.F.plainAttrs_list PySem.F.slot_list_extend PySem.F.type_list_extend mt_extend (pv 6) (pa_cons (pe_lc (own := [("key", 10)]) (g := (gName 10)) (tt := tYes) (te := (tTup (tCons (tVar 10) (tCons (tOp (rIxT K) (tVar 3) (tC (.int 0))) tNil)))) rfl sc_run_of.nd (pi_list (pv 9)) (blkOk_by (own := [("key", 10)]) (N := N_run_of) (sc := defScope s_run_of) (by decide +kernel)) (fun _ _ _ _ _ => (pg_name (i := 10) sc_run_of.nd rfl (Or.inl rfl))) (fun _ _ _ _ _ => pts_nil) (fun _ _ _ _ _ => (pe_tup (pa_cons (pv 10) (pa_cons (pe_ix ix_tup (pv 3) pe_int (fun _ _ => rfl)) pa_nil))))) pa_nil)))
        pss_nil))))))
      pss_nil)))
    (pss_cons (ps_ret (pe_tup (pa_cons (pv 5) (pa_cons (pv 6) (pa_cons (pv 4) pa_nil)))))
    pss_nil)))), ?_⟩
  refine start_F (N := N_run_of) T hh ?_
  have R := ret_F q
  refine tr_asgM (by show 4 < 11; decide) (em_lcE (as := Z.2) (f := tD) (h := tD) (c := fun t => decide (t.2.1 ∈ L.1)) (e := fun t => t) (srcT (ev_z1 (ev_var (t := stnTy Z) rfl))) (by have := OZ.nl; omega) fun H1 Bs D acc a _ => ⟨_, _, bd_name (by show 3 < 11; decide), by decide, rfl, rfl, ?_, fun _ => ev_var rfl⟩) fun pt m e => ?_
  · exact (et_test (ev_opD (ev_ixT (ev_var (t := .im (tD a)) rfl)) (ev_var rfl) (rd_inT encS (a := a.2.1) (as := L.1)))).eq (dec_any _ _)
  have e0 : ((Z.2.filter fun t => decide (t.2.1 ∈ L.1)).map fun t => t).map tD = Z.2.map tD := by
    rw [List.map_id', List.filter_eq_self.mpr fun t ht => decide_eq_true (OZ.ps t ht).pl]
  rw [e0] at e
  subst e
  refine tr_par3 (by show 5 < 11; decide) (by show 6 < 11; decide) (by show 7 < 11; decide) (am_consD ev_lst0 (am_consM em_lst0 fun po m e => am_consD ev_bl am_nil)) fun ts l ⟨t1, r1, e1, e2, po, m, r2, l2, e3, e4, e5, t3, r3, e6, e7, e8, e9⟩ => ?_
  subst e9 e8 e7 e6 e5 e4 e3 e2 e1
  refine ⟨_, _, _, rfl, ?_⟩
  refine tr_while (fun m s => ∃ (us : List Trn) (ps : List Key2) (os : List PyData) (b : Bool) (t3 t8 t9 t10 : Ty), Rch L Z us ps ∧ os.length = ps.length ∧ rem us + (if b then 1 else 0) = m ∧ (b = false → ∀ u ∈ us, Shut L Z ps u) ∧
    s = ⟨[.im (lD L), stnTy Z, .im (sD L.1), t3, .rf pt, .im (.list (ps.map kD)), .rf po, .im (.bool b), t8, t9, t10], [(po, .lst os), (pt, .lst (us.map tD))], none⟩) (rem Z.2 + 1) ⟨Z.2, [], [], true, .any, .any, .any, .any, .start OZ, rfl, rfl, (fun e => by cases e), rfl⟩ (fun _ _ ⟨_, _, _, _, _, _, _, _, _, _, _, _, e⟩ => by subst e; rfl) ?_
  rintro H1 Bs m s ⟨us, ps, os, b, t3, t8, t9, t10, hR, hos, rfl, hsh, rfl⟩
  refine ⟨fun c => c = b, et_B (ev_var rfl), fun e => ?_, fun e => ?_⟩
  · have e : true = b := e
    subst e
    refine tr_asgD (by show 7 < 11; decide) ev_bl ?_
    have hul : us.length ≤ 100 := by
      rw [hR.len]
      exact OZ.nl
    refine tr_for (src_rng1 (n := us.length) (ea_cons (ev_frzD2 (i := 4) rfl ((ev_lenL (ds := us.map tD) (ev_var rfl)).eq (by rw [List.length_map])) (.int _)) ea_nil) (by omega) (by omega)).p
      (fun _ i s => ∃ (vs : List Trn) (qs : List Key2) (os : List PyData) (c : Bool) (t3 t8 t9 t10 : Ty), Rch L Z vs qs ∧ os.length = qs.length ∧ rem vs + (if c then 1 else 0) ≤ rem us ∧ (c = false → vs = us ∧ qs = ps ∧ ∀ j u, j < i → us[j]? = some u → Shut L Z ps u) ∧
        s = ⟨[.im (lD L), stnTy Z, .im (sD L.1), t3, .rf pt, .im (.list (qs.map kD)), .rf po, .im (.bool c), t8, t9, t10], [(po, .lst os), (pt, .lst (vs.map tD))], none⟩)
      (fun _ _ _ => ⟨us, ps, os, false, t3, t8, t9, t10, hR, hos, by simp, fun _ => ⟨rfl, rfl, fun j u h => absurd h (Nat.not_lt_zero _)⟩, rfl⟩) (fun _ _ _ ⟨_, _, _, _, _, _, _, _, _, _, _, _, e⟩ => by subst e; rfl) ?_ ?_
    · rintro n ty ⟨rfl, rfl⟩ H2 Bs2 i s hi ⟨vs, qs, os, c, t3, t8, t9, t10, hV, hos, hrem, hc, rfl⟩
      have hi : i < us.length := by simpa using hi
      have hvl : vs.length = us.length := by rw [hV.len, hR.len]
      have hiv : i < vs.length := by omega
      have hu : vs[i]? = some vs[i] := List.getElem?_eq_getElem hiv
      generalize vs[i] = u at hu
      have hum : u ∈ vs := List.mem_of_getElem? hu
      have hqs : qs.length ≤ 100 := Nat.le_trans (hV.small OZ) O.sl
      have hPu : PsOk L u := by
        have hiz : i < Z.2.length := by
          rw [← hR.len]
          exact hi
        obtain ⟨k, h1, _⟩ := hV.tr i Z.2[i] (List.getElem?_eq_getElem hiz)
        rw [hu] at h1
        cases h1
        exact (OZ.ps _ (List.getElem_mem _)).adv k
      refine ⟨_, _, bd_name (by show 8 < 11; decide), ?_⟩
      have hat : (vs.map tD)[i]? = some (tD u) := by
        rw [List.getElem?_map, hu]
        rfl
      obtain ⟨hS1, hS2, hS3, hS4, hS5⟩ := hV.step hu (Prod.ext rfl (Prod.ext rfl rfl) : goOn L Z qs u.2.1 u.2.2 [] = ((goOn L Z qs u.2.1 u.2.2 []).1, (goOn L Z qs u.2.1 u.2.2 []).2.1, (goOn L Z qs u.2.1 u.2.2 []).2.2))
      refine tr_asgTD (ev_c (ts := [.im (lD L), stnTy Z, .im (sD L.1), .im (.list (qs.map kD)), .im (tD u)]) (ea_cons (ev_var rfl) (ea_cons (ev_var rfl) (ea_cons (ev_var rfl) (ea_cons (ev_var rfl) (ea_cons (ev_frzD2 (i := 4) rfl (ev_opD (ev_var (t := .im (.list (vs.map tD))) rfl) (ev_var rfl) (rd_ixL (at_n hat))) (nlT u)) ea_nil))))) ⟨L, Z, qs, u, rfl, hPu, by omega, rfl⟩)
        (bd_tup (bds_cons (bd_name (by show 3 < 11; decide)) (bds_cons (bd_name (by show 9 < 11; decide)) bds_nil))) ?_
      generalize (goOn L Z qs u.2.1 u.2.2 []).1 = p' at hS1 hS2 hS3 hS4 hS5 ⊢
      generalize (goOn L Z qs u.2.1 u.2.2 []).2.1 = r' at hS1 hS2 hS3 hS4 hS5 ⊢
      generalize (goOn L Z qs u.2.1 u.2.2 []).2.2 = f' at hS1 hS2 hS3 hS4 hS5 ⊢
      have hqf := Nat.le_trans (hS1.small OZ) O.sl
      rw [List.length_append] at hqf
      refine tr_asgD (by show 7 < 11; decide) (ev_orV (ev_var rfl) fun _ => ev_neE encT (a := (u.1, p', r')) (b := u) (ev_var rfl) (ev_frzD2 (i := 4) rfl (ev_opD (ev_var (t := .im (.list (vs.map tD))) rfl) (ev_var rfl) (rd_ixL (at_n hat))) (nlT u))) ?_
      refine tr_swap (tr_setL (j := i) rfl (by rw [List.length_map]; omega) (ev_var (t := .im (tD (u.1, p', r'))) rfl) (ev_var rfl) fun t et => ⟨_, et, ?_⟩)
      refine tr_asgD (by show 5 < 11; decide) (ev_opD (ev_var rfl) (ev_var rfl) (rd_catL (ds := qs.map kD) (es := f'.map kD) (by rw [List.length_map, List.length_map]; omega))) ?_
      refine tr_swap (tr_ext rfl (ev_lcM (as := f') (f := kD) (h := fun k => .tuple [kD k, nD u.1]) (e := fun k => k) (srcL (ev_var rfl)) (by omega) fun H1 Bs D acc a _ => ⟨_, _, bd_name (by show 10 < 11; decide), by decide, rfl, rfl, ?_⟩) fun t et => ⟨_, et, by rw [List.length_map, List.length_map]; omega, ?_⟩)
      · exact ev_tup2 (ev_var (t := .im (kD a)) rfl) (ev_ixT (ev_var (t := .im (tD (u.1, p', r'))) rfl))
      have eset : (vs.map tD).set i (tD (u.1, p', r')) = (vs.set i (u.1, p', r')).map tD := by
        rw [List.map_set]
      rw [eset, ← List.map_append]
      have hre := rem_set (u' := (u.1, p', r')) hu
      refine tr_next fun σ H S => ⟨_, ⟨vs.set i (u.1, p', r'), qs ++ f', _, _, _, _, _, _, hS1, ?_, ?_, ?_, rfl⟩, S⟩
      · rw [List.length_append, List.length_append, List.length_map, List.length_map, hos]
      · have hre : rem (vs.set i (u.1, p', r')) + u.2.2.length = rem vs + r'.length := hre
        by_cases hq : (u.1, p', r') = u
        · have : (c || !decide ((u.1, p', r') = u)) = c := by rw [decide_eq_true hq]; simp
          rw [this]
          omega
        · have h5 := hS5 hq
          split
          · split at hrem <;> omega
          · omega
      · intro hf
        rw [Bool.or_eq_false_iff] at hf
        obtain ⟨hf1, hf2⟩ := hf
        have hq : (u.1, p', r') = u := ndec_f hf2.symm
        obtain ⟨rfl, rfl, h3⟩ := hc hf1
        have hf0 := hS4 hq
        subst hf0
        refine ⟨?_, List.append_nil _, fun j v hj hv => ?_⟩
        · rw [hq]
          exact set_same hu
        · by_cases hji : j = i
          · subst hji
            rw [hu] at hv
            cases hv
            rw [hq, List.append_nil] at hS2
            exact hS2
          · exact h3 j v (by omega) hv
    · rintro n ty ⟨rfl, rfl⟩ s ⟨vs, qs, os, c, t3, t8, t9, t10, hV, hos, hrem, hc, rfl⟩
      refine tr_next fun σ H S => ⟨_, ⟨rem vs + (if c then 1 else 0), ?_, vs, qs, os, c, _, _, _, _, hV, hos, rfl, fun hf u hu => ?_, rfl⟩, S⟩
      · simp only [if_true]
        omega
      · obtain ⟨rfl, rfl, h3⟩ := hc hf
        obtain ⟨j, hj⟩ := List.getElem?_of_mem hu
        have := (List.getElem?_eq_some_iff.mp hj).1
        exact h3 j u (by simpa using this) hj
  · have e : false = b := e
    refine tr_frz (i := 6) rfl (tr_frz (i := 4) rfl (tr_retR (R.later Bs) (ev_tup3 (ev_var (t := .im (.list (ps.map kD))) rfl) (ev_var (t := .im (.list os)) rfl) (ev_var (t := .im (.list (us.map tD))) rfl)) fun t et => ⟨us, ps, os, ⟨hR, hsh e.symm⟩, et⟩))
abbrev s_open_run : Stmt := topS 24
abbrev N_open_run : List Str := ["line", "standing", "passed", "openers", "trains"]
theorem sc_open_run : FnScope N_open_run ["line", "standing"] (defScope s_open_run) := ⟨rfl, rfl, rfl, by decide +kernel, rfl, by decide +kernel, by decide +kernel⟩
theorem bd_open_run (B : Bl mg) (c_run_of : Cal P w K mg base 6 "run_of" sp_run_of []) : Bod P w K mg base N_open_run "open_run" s_open_run 6 sp_open_run := fun f cdv A outer s H vs Q E hr h => by
  have hu := hu_of hr
  obtain ⟨x, ts, Φ, ⟨L, Z, rfl, O, OZ, rfl⟩, T, hh, q⟩ := h
  refine ⟨_, (pss_cons (ps_asg (pe_c c_run_of hr (by decide) (by rfl) (pa_cons (pv 0) (pa_cons (pv 1) (pa_cons (pe_ix ix_tup (pv 0) pe_int (fun _ _ => rfl)) pa_nil)))) (pg_tup rfl (pgs_cons (pg_name (i := 2) sc_open_run.nd rfl (Or.inl rfl)) (pgs_cons (pg_name (i := 3) sc_open_run.nd rfl (Or.inl rfl)) (pgs_cons (pg_name (i := 4) sc_open_run.nd rfl (Or.inl rfl)) pgs_nil)))))
    (pss_cons (ps_ret (pe_tup (pa_cons (pe_callTy call_tuple_of (by rfl) B.m_tuple (by decide +kernel) (pa_cons (pe_callB (cr_sortD hr.units1) (by rfl) B.m_sorted (by decide +kernel) (pa_cons (pv 2) pa_nil)) pa_nil)) (pa_cons (pe_callTy call_tuple_of (by rfl) B.m_tuple (by decide +kernel) (pa_cons (pv 4) pa_nil)) pa_nil))))
    pss_nil)), ?_⟩
  refine start_F (N := N_open_run) T hh ?_
  have R := ret_F q
  refine tr_asgT (ev_callD (ts := [.im (lD L), stnTy Z, .im (sD L.1)]) (ea_cons (ev_var rfl) (ea_cons (ev_var rfl) (ea_cons (ev_ixT (ev_var (t := .im (lD L)) rfl)) ea_nil))) ⟨L, Z, rfl, O, OZ, rfl⟩) ?_
  rintro _ ⟨us, ps, os, hR, rfl⟩
  refine ⟨_, _, bd_tup (bds_cons (bd_name (by show 2 < 5; decide)) (bds_cons (bd_name (by show 3 < 5; decide)) (bds_cons (bd_name (by show 4 < 5; decide)) bds_nil))), ?_⟩
  have hps : ps.length ≤ 100 := Nat.le_trans (hR.small OZ) O.sl
  refine tr_retR R (ev_tup2 (ev_tupL (ev_sort srtK encK (as := ps) (ev_var rfl) (by omega))) (ev_tupL (ds := us.map tD) (ev_var rfl))) fun t et => ⟨us, ps.mergeSort (leD kD), hR.perm (List.mergeSort_perm _ _), et⟩
abbrev s_gets_home : Stmt := topS 28
abbrev N_gets_home : List Str := ["line", "standing", "name", "passed", "trains", "other", "place", "rest"]
theorem sc_gets_home : FnScope N_gets_home ["line", "standing", "name"] (defScope s_gets_home) := ⟨rfl, rfl, rfl, by decide +kernel, rfl, by decide +kernel, by decide +kernel⟩
theorem bd_gets_home (B : Bl mg) (c_rest_of : Cal P w K mg base 2 "rest_of" sp_rest_of []) (c_open_run : Cal P w K mg base 7 "open_run" sp_open_run []) : Bod P w K mg base N_gets_home "gets_home" s_gets_home 7 sp_gets_home := fun f cdv A outer s H vs Q E hr h => by
  have hu := hu_of hr
  obtain ⟨x, ts, Φ, ⟨L, Z, t, rfl, O, OZ, ht, rfl⟩, T, hh, q⟩ := h
  refine ⟨_, (pss_cons (ps_expr (pe_c c_rest_of hr (by decide) (by rfl) (pa_cons (pv 1) (pa_cons (pv 2) pa_nil))))
    (pss_cons (ps_asg (pe_c c_open_run hr (by decide) (by rfl) (pa_cons (pv 0) (pa_cons (pv 1) pa_nil))) (pg_tup rfl (pgs_cons (pg_name (i := 3) sc_gets_home.nd rfl (Or.inl rfl)) (pgs_cons (pg_name (i := 4) sc_gets_home.nd rfl (Or.inl rfl)) pgs_nil))))
    (pss_cons (ps_ret (pe_cmpR (op_eqD hr.units) (pe_lc (own := [("other", 5), ("place", 6), ("rest", 7)]) (g := (gTup K 3 (gCons (gName 5) (gCons (gName 6) (gCons (gName 7) gNil))))) (tt := (tTest (tOp (rEqD K) (tVar 5) (tVar 2)))) (te := (tVar 7)) rfl sc_gets_home.nd (pi_tup (pv 4)) (blkOk_by (own := [("other", 5), ("place", 6), ("rest", 7)]) (N := N_gets_home) (sc := defScope s_gets_home) (by decide +kernel)) (fun _ _ _ _ _ => (pg_tup rfl (pgs_cons (pg_name (i := 5) sc_gets_home.nd rfl (Or.inl rfl)) (pgs_cons (pg_name (i := 6) sc_gets_home.nd rfl (Or.inl rfl)) (pgs_cons (pg_name (i := 7) sc_gets_home.nd rfl (Or.inl rfl)) pgs_nil))))) (fun _ _ _ _ _ => (pts_one (pt_cmpR (op_eqD hr.units) (pv 5) (pv 2) (nomark _)))) (fun _ _ _ _ _ => (pv 7))) (pe_lst (pa_cons (pe_tup pa_nil) pa_nil)) (nomark _)))
    pss_nil))), ?_⟩
  refine start_F (N := N_gets_home) T hh ?_
  have R := ret_F q
  have hto : trainOf Z t.1 = some t := find_train OZ.nm ht
  refine tr_drop (ev_c (ts := [stnTy Z, .im (nD t.1)]) (t := .im (sD t.2.2)) (ea_cons (ev_var rfl) (ea_cons (ev_var rfl) ea_nil)) ⟨Z, t.1, t, rfl, hto, rfl⟩) ?_
  refine tr_asgT (ev_callD (ts := [.im (lD L), stnTy Z]) (ea_cons (ev_var rfl) (ea_cons (ev_var rfl) ea_nil)) ⟨L, Z, rfl, O, OZ, rfl⟩) ?_
  rintro _ ⟨us, ps, hR, rfl⟩
  refine ⟨_, _, bd_tup (bds_cons (bd_name (by show 3 < 8; decide)) (bds_cons (bd_name (by show 4 < 8; decide)) bds_nil)), ?_⟩
  have hul : us.length ≤ 100 := by
    rw [hR.len]
    exact OZ.nl
  obtain ⟨i, hi⟩ := List.getElem?_of_mem ht
  have hil := (List.getElem?_eq_some_iff.mp hi).1
  have hil2 : i < us.length := by
    rw [hR.len]
    exact hil
  have hu : us[i]? = some us[i] := List.getElem?_eq_getElem hil2
  generalize us[i] = u at hu
  have hn := RunEnd.names hR.toRch
  have hun : u.1 = t.1 := by
    have h1 : (us.map (·.1))[i]? = some u.1 := by rw [List.getElem?_map, hu]; rfl
    rw [hn, List.getElem?_map, hi] at h1
    exact (Option.some.inj h1).symm
  have hnd : (us.map (·.1)).Nodup := by
    rw [hn]
    exact OZ.nm
  have hf : (us.filter fun v => decide (v.1 = t.1)).map (fun v => v.2.2) = [u.2.2] := by
    rw [← hun, filter_nodup hnd (List.mem_of_getElem? hu)]
    rfl
  refine tr_retE R (ev_eqE encSs.ll (a := [u.2.2]) (b := [[]]) ((ev_lcE (as := us) (f := tD) (h := sD) (c := fun v => decide (v.1 = t.1)) (e := fun v => v.2.2) (srcT (ev_var rfl)) (by omega) fun H1 Bs D acc a _ => ⟨_, _, bd_tup (bds_cons (bd_name (by show 5 < 8; decide)) (bds_cons (bd_name (by show 6 < 8; decide)) (bds_cons (bd_name (by show 7 < 8; decide)) bds_nil))), by decide, rfl, rfl, et_test (ev_eqE encS (a := a.1) (b := t.1) (ev_var rfl) (ev_var rfl)), fun _ => ev_var rfl⟩).eq (by rw [hf])) (ev_lst1 ev_tup0)) ?_
  unfold homeB
  refine congrArg (fun b => Ty.im (.bool b)) ?_
  rw [Bool.eq_iff_iff, decide_eq_true_iff, @decide_eq_true_iff _ (Classical.propDecidable _), ← hR.home hi hu]
  exact ⟨fun z => by injection z, fun z => by rw [z]⟩
end
end Sx
set_option Elab.async false
set_option linter.all false
set_option maxRecDepth 100000
set_option maxHeartbeats 4000000
/-! Plain laws: what is sorted is known by its members. -/
namespace Sx
open PySem L2 PySem.W
theorem leD_anti_n {a b : Nm} (h1 : leD nD a b = true) (h2 : leD nD b a = true) : a = b := by
  have e1 : dataLt (nD b) (nD a) = false := by
    have : (!dataLt (nD b) (nD a)) = true := h1
    simpa using this
  have e2 : dataLt (nD a) (nD b) = false := by
    have : (!dataLt (nD a) (nD b)) = true := h2
    simpa using this
  have e1 : dataLt (.str b.1) (.str a.1) = false := e1
  have e2 : dataLt (.str a.1) (.str b.1) = false := e2
  rw [dataLt_str] at e1 e2
  exact Subtype.ext (sLt_total (a := a.1) (b := b.1) e2 e1)
theorem leD_anti_k {a b : Key2} (h1 : leD kD a b = true) (h2 : leD kD b a = true) : a = b := by
  have e1 : dataLt (kD b) (kD a) = false := by
    have : (!dataLt (kD b) (kD a)) = true := h1
    simpa using this
  have e2 : dataLt (kD a) (kD b) = false := by
    have : (!dataLt (kD a) (kD b)) = true := h2
    simpa using this
  have f1 : dataLt (.tuple [nD b.1, nD b.2]) (.tuple [nD a.1, nD a.2]) = false := e1
  have f2 : dataLt (.tuple [nD a.1, nD a.2]) (.tuple [nD b.1, nD b.2]) = false := e2
  rw [dataLt_pair (srtN.al _ _) (srtN.al _ _), encS.eqv, encS.eqv] at f1 f2
  have an : ∀ {x y : Nm}, dataLt (nD x) (nD y) = false → dataLt (nD y) (nD x) = false → x = y := fun {x y} p q => by
    have p : dataLt (.str x.1) (.str y.1) = false := p
    have q : dataLt (.str y.1) (.str x.1) = false := q
    rw [dataLt_str] at p q
    exact Subtype.ext (sLt_total (a := x.1) (b := y.1) p q)
  by_cases g : a.1 = b.1
  · rw [decide_eq_true g.symm, if_pos rfl] at f1
    rw [decide_eq_true g, if_pos rfl] at f2
    by_cases g2 : a.2 = b.2
    · exact Prod.ext g g2
    · rw [decide_eq_false fun z => g2 z.symm, if_neg Bool.false_ne_true] at f1
      rw [decide_eq_false g2, if_neg Bool.false_ne_true] at f2
      exact absurd (an f2 f1) g2
  · rw [decide_eq_false fun z => g z.symm, if_neg Bool.false_ne_true] at f1
    rw [decide_eq_false g, if_neg Bool.false_ne_true] at f2
    exact absurd (an f2 f1) g
theorem sort_same {α : Type} [DecidableEq α] {f : α → PyData} (an : ∀ a b, leD f a b = true → leD f b a = true → a = b) {es fs : List α} (p : es.Perm fs) : es.mergeSort (leD f) = fs.mergeSort (leD f) := by
  have T := sortLe_total (PyProof.Rows.listOrd PyProof.Rows.itemOrd) false (fun b => keyToks (f b))
  exact Srt.the_of_perm (leD f) T.trans (fun a b => Bool.or_eq_true_iff.mpr (T.total a b)) an ((List.mergeSort_perm es (leD f)).trans p) (sort_pairwise T es)
theorem perm_mem {α : Type} [DecidableEq α] {es fs : List α} (h1 : es.Nodup) (h2 : fs.Nodup) (m : ∀ k, k ∈ es ↔ k ∈ fs) : es.Perm fs := (List.perm_ext_iff_of_nodup h1 h2).mpr m
/-- the members, each once, in order -/
def nub {α : Type} [DecidableEq α] : List α → List α
  | [] => []
  | a :: l => if a ∈ l then nub l else a :: nub l
theorem mem_nub {α : Type} [DecidableEq α] {a : α} : ∀ {l : List α}, a ∈ nub l ↔ a ∈ l
  | [] => Iff.rfl
  | b :: l => by
    unfold nub
    by_cases h : b ∈ l
    · rw [if_pos h, mem_nub, List.mem_cons]
      exact ⟨.inr, fun z => z.elim (fun e => by rw [e]; exact h) id⟩
    · rw [if_neg h, List.mem_cons, List.mem_cons, mem_nub]
theorem nodup_nub {α : Type} [DecidableEq α] : ∀ {l : List α}, (nub l).Nodup
  | [] => List.nodup_nil
  | b :: l => by
    unfold nub
    by_cases h : b ∈ l
    · rw [if_pos h]
      exact nodup_nub
    · rw [if_neg h]
      exact List.nodup_cons.mpr ⟨fun z => h (mem_nub.mp z), nodup_nub⟩
/-- keys, each once, sorted -/
def canonK (ks : List Key2) : List Key2 := (nub ks).mergeSort (leD kD)
theorem canonK_of {es ks : List Key2} (h : es.Nodup) (m : ∀ k, k ∈ es ↔ k ∈ ks) : es.mergeSort (leD kD) = canonK ks := sort_same (fun _ _ => leD_anti_k) (perm_mem h nodup_nub fun k => (m k).trans mem_nub.symm)
theorem canonK_same {ks ls : List Key2} (m : ∀ k, k ∈ ks ↔ k ∈ ls) : canonK ks = canonK ls := canonK_of nodup_nub fun k => mem_nub.trans (m k)
theorem mem_canonK {ks : List Key2} {k : Key2} : k ∈ canonK ks ↔ k ∈ ks := by
  unfold canonK
  rw [List.mem_mergeSort, mem_nub]
end Sx
set_option Elab.async false
set_option linter.all false
set_option maxRecDepth 100000
set_option maxHeartbeats 4000000
namespace Sx
open PySem PySem.Spec PyProof.Rows L2
open C8 (Cal pe_c)
theorem dec_iff2 {p q : Prop} {i : Decidable p} {j : Decidable q} (h : p ↔ q) : @decide p i = @decide q j := dec_iff h
/-! ### a call that makes a dict -/
def spN (S : List Ty → (MO → Prop) → Prop) : Sp := fun vs H Q _ => ∃ x ts Φ, S ts Φ ∧ Trk x H ∧ Hold (hid x H) vs ts ∧ ∀ p m H', Φ m → H p = none → Same H H' → m.holds (hid (p :: x) H') H' p → Q (.ref p) H'
section
variable {H0 H : Hp} {x : List Addr} {ss : SS} {ta : TA} {te : TE} {E : XK} {S : List Ty → (MO → Prop) → Prop}
theorem ev_callN {Φ : MO → Prop} {ts : List Ty} (h : EaD H0 x ss ta ts) (k : S ts Φ) : EvM H0 x ss (tCall (spN S) [] E ta) Φ := fun σ H Z Q q =>
  h σ H Z _ fun ts' vs H1 p1 S1 e1 r => by
    subst p1
    refine ⟨ss.M x, ts', Φ, k, S1.trk, by rw [List.append_nil]; exact r, fun p m H2 hm hp e2 hh => ?_⟩
    have hp0 : H p = none := by
      cases z : H p with
      | none => rfl
      | some o =>
        by_cases hb : p ∈ ss.bm
        · obtain ⟨c, hc⟩ := bm_iff.mp hb
          obtain ⟨⟨_, s0, s1, s2, cs, e3, _⟩, _⟩ := S1.bg p c hc
          rw [e3] at hp
          cases hp
        · have h2 := e1 p o (by rw [hid_out hb]; exact z)
          rw [(hid_some h2).2] at hp
          cases hp
    have S2 := S1.pure e2
    have nM : p ∉ ss.M x := S1.trk.fresh hp
    have eM : Same (hid (ss.M x) H1) (hid (({ ss with l := (p, m) :: ss.l } : SS).M x) H2) := fun a u h => by
      obtain ⟨n, h⟩ := hid_some h
      rw [hid_out fun z => ?_]
      · exact e2 a u h
      · rcases List.mem_cons.mp z with z | z
        · rw [z, hp] at h
          cases h
        · exact n z
    have h0p : H0 p = none := by
      cases z : H0 p with
      | none => rfl
      | some u =>
        by_cases b : p ∈ ss.bm
        · obtain ⟨c, hc⟩ := bm_iff.mp b
          obtain ⟨⟨_, s0, s1, s2, cs, e3, _⟩, _⟩ := S1.bg p c hc
          rw [e3] at hp
          cases hp
        · rw [S1.fr p u b z] at hp
          cases hp
    refine q p m H2 hm hp0 ⟨S2.fr, fun q hq => ?_, ?_, S2.bg, S2.tx, fun i t h => ?_, S2.ln⟩ (e1.trans (hid_mono e2))
    · rcases List.mem_cons.mp hq with z | z
      · subst z
        exact ⟨h0p, hh⟩
      · obtain ⟨h1, h2⟩ := S1.ls q z
        refine ⟨h1, MO.mono eM ?_ h2⟩
        cases z2 : H1 q.1 with
        | none => exact absurd z2 (MO.some h2)
        | some o => exact e2 _ _ z2
    · show (p :: ss.l.map (·.1)).Nodup
      exact List.nodup_cons.mpr ⟨fun m => nM (List.mem_append_left _ m), S1.nd⟩
    · rcases S1.vr i t h with z | ⟨v, h1, h2⟩
      · exact .inl z
      · exact .inr ⟨v, h1, Ty.mono eM h2⟩
theorem tr_retN {u : TS} {D : Ends} {Φ Ψ : MO → Prop} (R : ∀ p m H', Φ m → H p = none → Same H H' → m.holds (hid (p :: x) H') H' p → D.rt (.ref p) H') (h : EvM H x ss te Ψ) (k : ∀ m, Ψ m → Φ m) (hb : ss.b = none := by rfl) : Tr H x ss (tSeq (tRet te) u) D := fun σ H1 S1 =>
  h σ H1 S1 _ fun p m H2 hm hp S2 e2 => by
    have nb : ss.bm = [] := by
      unfold SS.bm
      rw [hb]
    obtain ⟨h0, hh⟩ := S2.ls (p, m) List.mem_cons_self
    refine R p m H2 (k m hm) h0 (fun a o h => S2.fr a o (fun z => ?_) h) (MO.mono (hid_sub fun a m => ?_) rfl hh)
    · have z : a ∈ ss.bm := z
      rw [nb] at z
      cases z
    · rcases List.mem_cons.mp m with m | m
      · rw [m]
        exact List.mem_cons_self
      · exact List.mem_append_right _ (List.mem_append_right _ m)
end
/-! ### keys of pairs -/
structure KS (kvs : List (List Key × PyData)) (ks : List Key2) : Prop where
  ky : kvs.map (·.1) = ks.map kKK
  nd : ks.Nodup
theorem KS.nil : KS [] [] := ⟨rfl, List.nodup_nil⟩
theorem KS.mem {kvs : List (List Key × PyData)} {ks : List Key2} (h : KS kvs ks) (k : Key2) : kKK k ∈ kvs.map (·.1) ↔ k ∈ ks := by
  rw [h.ky, List.mem_map]
  exact ⟨fun ⟨q, h1, h2⟩ => by rw [← kKK_inj h2]; exact h1, fun z => ⟨k, z, rfl⟩⟩
theorem KS.put {kvs : List (List Key × PyData)} {ks : List Key2} (h : KS kvs ks) (k : Key2) (d : PyData) : KS (putD kvs (kKK k) d) (if k ∈ ks then ks else ks ++ [k]) := by
  refine ⟨?_, ?_⟩
  · rw [putD_keys]
    by_cases e : k ∈ ks
    · rw [if_pos ((h.mem k).mpr e), if_pos e]
      exact h.ky
    · rw [if_neg fun z => e ((h.mem k).mp z), if_neg e, h.ky, List.map_append]
      rfl
  · by_cases e : k ∈ ks
    · rw [if_pos e]
      exact h.nd
    · rw [if_neg e]
      exact List.nodup_append.mpr ⟨h.nd, by simp, fun x hx y hy z => e (by rw [← List.mem_singleton.mp hy, ← z]; exact hx)⟩
theorem mem_put {k q : Key2} {ks : List Key2} : q ∈ (if k ∈ ks then ks else ks ++ [k]) ↔ q ∈ ks ∨ q = k := by
  by_cases e : k ∈ ks
  · rw [if_pos e]
    exact ⟨.inl, fun z => z.elim id fun z => by rw [z]; exact e⟩
  · rw [if_neg e, List.mem_append, List.mem_singleton]
theorem valD_get {κ : Type} [DecidableEq κ] {kvs : List (κ × PyData)} {k : κ} (h : k ∈ kvs.map (·.1)) : ∃ d, valD kvs k = some d ∧ (k, d) ∈ kvs := by
  have := (valD_iff kvs k).mpr h
  rw [Option.isSome_iff_exists] at this
  obtain ⟨d, hd⟩ := this
  refine ⟨d, hd, ?_⟩
  unfold valD at hd
  rw [Option.map_eq_some_iff] at hd
  obtain ⟨q, h1, h2⟩ := hd
  have h3 := List.find?_some h1
  have h4 := List.mem_of_find?_eq_some h1
  rw [← of_decide_eq_true h3, ← h2]
  exact h4
theorem putD_ints {κ : Type} [DecidableEq κ] {kvs : List (κ × PyData)} {k : κ} {n : Int} (h : ∀ e ∈ kvs, ∃ n, e.2 = .int n) : ∀ e ∈ putD kvs k (.int n), ∃ n, e.2 = .int n := fun e m => by
  unfold putD at m
  split at m
  · obtain ⟨q, hq, rfl⟩ := List.mem_map.mp m
    by_cases z : q.1 = k
    · rw [if_pos z]
      exact ⟨n, rfl⟩
    · rw [if_neg z]
      exact h q hq
  · rcases List.mem_append.mp m with m | m
    · exact h e m
    · rw [List.mem_singleton.mp m]
      exact ⟨n, rfl⟩
/-! ### what the defs reckon -/
def allPs (Z : Stn) : List Key2 := Z.2.flatMap passesOf
def needOf (Z : Stn) : List Key2 := canonK ((allPs Z).map keyP)
def farOf (L : Lin) (Z : Stn) (t : Trn) : List Key2 := canonK (((passesOf t).map keyP).filter (farB L Z t.2.1))
noncomputable def passB (L : Lin) (Z : Stn) (k : Key2) : Bool := @decide (Passed L Z k) (Classical.propDecidable _)
noncomputable def heldOf (L : Lin) (Z : Stn) : List Key2 := (needOf Z).filter fun k => !passB L Z k && !decide (sortOf L k = some freeN)
noncomputable def barD (L : Lin) (Z : Stn) (t : Trn) : PyData := if homeB L Z t then .none else .tuple ((heldOf L Z).map kD)
abbrev sp_passes_of : Sp := spF fun ts Φ => ∃ (Z : Stn) (n : Nm) (t : Trn), ts = [stnTy Z, .im (nD n)] ∧ trainOf Z n = some t ∧ t.2.2.length ≤ 100 ∧ Φ = dt (.im (.tuple ((passesOf t).map kD)))
abbrev sp_passes_left : Sp := spN fun ts Φ => ∃ (L : Lin) (Z : Stn), ts = [.im (lD L), stnTy Z] ∧ StnOk L Z ∧ Φ = fun m => ∃ kvs ks, m = .dT kvs ∧ KS kvs ks ∧ ks.length ≤ 10000 ∧ ∀ q, q ∈ ks ↔ q ∈ allPs Z
abbrev sp_needed : Sp := spF fun ts Φ => ∃ (L : Lin) (Z : Stn), ts = [.im (lD L), stnTy Z] ∧ StnOk L Z ∧ Φ = dt (.im (.tuple ((needOf Z).map kD)))
abbrev sp_far : Sp := spF fun ts Φ => ∃ (L : Lin) (Z : Stn) (t : Trn), ts = [.im (lD L), stnTy Z, .im (nD t.1)] ∧ LinOk L ∧ StnOk L Z ∧ t ∈ Z.2 ∧ Φ = dt (.im (.tuple ((farOf L Z t).map kD)))
abbrev sp_held : Sp := spF fun ts Φ => ∃ (L : Lin) (Z : Stn), ts = [.im (lD L), stnTy Z] ∧ LinOk L ∧ StnOk L Z ∧ Φ = dt (.im (.tuple ((heldOf L Z).map kD)))
abbrev sp_bar : Sp := spF fun ts Φ => ∃ (L : Lin) (Z : Stn) (t : Trn), ts = [.im (lD L), stnTy Z, .im (nD t.1)] ∧ LinOk L ∧ StnOk L Z ∧ t ∈ Z.2 ∧ Φ = dt (.im (barD L Z t))
section
variable {P : Program} {w : World} {K : PySem.W.Frag} {mg : Str → Option Value} {base : Heap}
abbrev s_passes_of : Stmt := topS 15
abbrev N_passes_of : List Str := ["standing", "name", "train", "stops"]
theorem sc_passes_of : FnScope N_passes_of ["standing", "name"] (defScope s_passes_of) := ⟨rfl, rfl, rfl, by decide +kernel, rfl, by decide +kernel, by decide +kernel⟩
theorem bd_passes_of (B : Bl mg) (c_train_of : Cal P w K mg base 1 "train_of" sp_train_of []) : Bod P w K mg base N_passes_of "passes_of" s_passes_of 1 sp_passes_of := fun f cdv A outer s H vs Q E hr h => by
  have hu := hu_of hr
  obtain ⟨x, ts, Φ, ⟨Z, n, t, rfl, ht, hl, rfl⟩, T, hh, q⟩ := h
  refine ⟨_, (pss_cons (ps_set (i := 2) sc_passes_of.nd rfl (Or.inl rfl) (pe_c c_train_of hr (by decide) (by rfl) (pa_cons (pv 0) (pa_cons (pv 1) pa_nil))))
    (pss_cons (ps_set (i := 3) sc_passes_of.nd rfl (Or.inl rfl) (pe_op op_catA (pe_slice sl_tupA (pv 2) (po_some pe_int) (po_some pe_int)) (pe_ix ix_tup (pv 2) pe_int (fun _ _ => rfl))))
    (pss_cons (ps_ret (pe_tupZip rfl (by rfl) B.m_tuple (by rfl) B.m_zip (pa_cons (pv 3) (pa_cons (pe_slice sl_tupA (pv 3) (po_some pe_int) po_none) pa_nil))))
    pss_nil))), ?_⟩
  refine start_F (N := N_passes_of) T hh ?_
  have R := ret_F q
  refine tr_asgD (by show 2 < 4; decide) (ev_c (ts := [stnTy Z, .im (nD n)]) (ea_cons (ev_var rfl) (ea_cons (ev_var rfl) ea_nil)) ⟨Z, n, t, rfl, ht, rfl⟩) ?_
  refine tr_asgD (t := .im (.tuple ((t.2.1 :: t.2.2).map nD))) (by show 3 < 4; decide) ((ev_opD (ev_sl (lo := some 1) (hi := some 2) (ev_var (t := .im (tD t)) rfl) (eo_at ev_int) (eo_at ev_int) rs_tup) (ev_ixT (ds := [nD t.1, nD t.2.1, sD t.2.2]) (ev_var (t := .im (tD t)) rfl)) (rd_catT (es := t.2.2.map nD) ?_)).eq rfl) ?_
  · rw [List.length_map]
    show 1 + t.2.2.length ≤ 100000
    omega
  refine tr_retE R (ev_tupZip (ea_cons (ev_var rfl) (ea_cons (ev_tail (f := nD) (a := t.2.1) (as := t.2.2) (ev_var rfl)) ea_nil)) (by rw [List.length_map, List.length_cons]; omega)) ?_
  unfold passesOf
  rw [← pf_zip, List.zip_map, List.map_map]
  rfl
abbrev s_passes_left : Stmt := topS 18
abbrev N_passes_left : List Str := ["line", "standing", "found", "name", "one"]
theorem sc_passes_left : FnScope N_passes_left ["line", "standing"] (defScope s_passes_left) := ⟨rfl, rfl, rfl, by decide +kernel, rfl, by decide +kernel, by decide +kernel⟩
theorem bd_passes_left (B : Bl mg) (c_names_of : Cal P w K mg base 1 "names_of" sp_names_of []) (c_passes_of : Cal P w K mg base 2 "passes_of" sp_passes_of []) : Bod P w K mg base N_passes_left "passes_left" s_passes_left 2 sp_passes_left := fun f cdv A outer s H vs Q E hr h => by
  have hu := hu_of hr
  obtain ⟨x, ts, Φ, ⟨L, Z, rfl, OZ, rfl⟩, T, hh, q⟩ := h
  refine ⟨_, (pss_cons (ps_set (i := 2) sc_passes_left.nd rfl (Or.inr rfl) pe_dnewT)
    (pss_cons (ps_for PassesOwn.never rfl (pi_tup (pe_c c_names_of hr (by decide) (by rfl) (pa_cons (pv 1) pa_nil))) (pg_name (i := 3) sc_passes_left.nd rfl (Or.inl rfl))
      (pss_cons (ps_for PassesOwn.never rfl (pi_tup (pe_c c_passes_of hr (by decide) (by rfl) (pa_cons (pv 1) (pa_cons (pv 3) pa_nil)))) (pg_name (i := 4) sc_passes_left.nd rfl (Or.inl rfl))
        (pss_cons (ps_dput hu (pv 2) (pv 4) (pe_op op_add (pe_dget2 hu (pv 2) (pv 4) pe_int (M2.mk rfl rfl rfl rfl)) pe_int) rfl)
        pss_nil))
      pss_nil))
    (pss_cons (ps_ret (pe_dcT (own := [("one", 4)]) (g := (gName 4)) (tt := tYes) (tk := (tVar 4)) (tv := (tDGet (tVar 2) (tVar 4))) hu rfl sc_passes_left.nd (pi_list (pe_callB (cr_sortDT rfl hr.units1) (by rfl) B.m_sorted (by decide +kernel) (pa_cons (pv 2) pa_nil))) (blkOk_by (own := [("one", 4)]) (N := N_passes_left) (sc := defScope s_passes_left) (by decide +kernel)) (fun _ _ _ _ _ => (pg_name (i := 4) sc_passes_left.nd rfl (Or.inl rfl))) (fun _ _ _ _ _ => pts_nil) (fun _ _ _ _ _ => (pv 4)) (fun _ _ _ _ _ => (pe_dget hu (pv 2) (pv 4) (fun _ _ => rfl)))))
    pss_nil))), ?_⟩
  refine start_F (N := N_passes_left) T hh ?_
  refine tr_asgM (by show 2 < 5; decide) em_newT fun p m e => ?_
  subst e
  have hcap : ∀ ks : List Key2, ks.Nodup → (∀ q ∈ ks, q ∈ allPs Z) → ks.length ≤ 10000 := fun ks hn hs => by
    refine Nat.le_trans (nodup_sub_len hn hs) ?_
    have h1 : ∀ l : List Trn, (∀ t ∈ l, t.2.2.length ≤ 60) → (l.flatMap passesOf).length ≤ 60 * l.length := by
      intro l
      induction l with
      | nil => intro _; simp
      | cons t l ih =>
        intro h
        have h2 := ih fun t m => h t (List.mem_cons_of_mem _ m)
        have h3 := h t List.mem_cons_self
        rw [List.flatMap_cons, List.length_append, List.length_cons]
        have h4 : (passesOf t).length = t.2.2.length := pf_len _ _
        omega
    have h2 := h1 Z.2 fun t m => (OZ.ps t m).rl
    have h3 := OZ.nl
    show (Z.2.flatMap passesOf).length ≤ 10000
    omega
  refine tr_forE (as := Z.2.map (·.1)) (f := nD) (srcT (ev_c (ts := [stnTy Z]) (ea_cons (ev_var rfl) ea_nil) ⟨Z, rfl, OZ.nl, rfl⟩)) (fun i s => ∃ t3 t4 kvs ks, s = ⟨[.im (lD L), stnTy Z, .rf p, t3, t4], [(p, .dT kvs)], none⟩ ∧ KS kvs ks ∧ (∀ q, q ∈ ks ↔ q ∈ (Z.2.take i).flatMap passesOf) ∧ ∀ e ∈ kvs, ∃ n, e.2 = .int n) ⟨.any, .any, [], [], rfl, .nil, fun q => by simp, fun e m => (nomatch m)⟩ (fun _ _ ⟨_, _, _, _, e, _⟩ => by subst e; rfl) ?_ ?_
  · rintro H1 Bs i n _ he ⟨t3, t4, kvs, ks, rfl, hK, hm, hi⟩
    refine ⟨_, _, bd_name (by show 3 < 5; decide), ?_⟩
    rw [List.getElem?_map] at he
    obtain ⟨t, ht, rfl⟩ := Option.map_eq_some_iff.mp he
    have hto : trainOf Z t.1 = some t := find_train OZ.nm (List.mem_of_getElem? ht)
    have ho := (OZ.ps t (List.mem_of_getElem? ht)).rl
    have etk : (Z.2.take (i + 1)).flatMap passesOf = (Z.2.take i).flatMap passesOf ++ passesOf t := by
      rw [take_next ht, List.flatMap_append, List.flatMap_singleton]
    refine tr_forE (as := passesOf t) (f := kD) (srcT (ev_c (ts := [stnTy Z, .im (nD t.1)]) (ea_cons (ev_var rfl) (ea_cons (ev_var rfl) ea_nil)) ⟨Z, t.1, t, rfl, hto, by omega, rfl⟩)) (fun j s => ∃ t4 kvs ks, s = ⟨[.im (lD L), stnTy Z, .rf p, .im (nD t.1), t4], [(p, .dT kvs)], none⟩ ∧ KS kvs ks ∧ (∀ q, q ∈ ks ↔ q ∈ (Z.2.take i).flatMap passesOf ∨ q ∈ (passesOf t).take j) ∧ ∀ e ∈ kvs, ∃ n, e.2 = .int n) ⟨t4, kvs, ks, rfl, hK, fun q => by rw [hm q]; simp, hi⟩ (fun _ _ ⟨_, _, _, e, _⟩ => by subst e; rfl) ?_ ?_
    · rintro H2 Bs2 j k _ hk ⟨t4, kvs, ks, rfl, hK, hm, hi⟩
      refine ⟨_, _, bd_name (by show 4 < 5; decide), ?_⟩
      have hlen : kvs.length ≤ 10000 := by
        have h1 : kvs.length = ks.length := by
          have := congrArg List.length hK.ky
          rwa [List.length_map, List.length_map] at this
        rw [h1]
        refine hcap ks hK.nd fun q hq => ?_
        rcases (hm q).mp hq with z | z
        · obtain ⟨t', h1, h2⟩ := List.mem_flatMap.mp z
          exact List.mem_flatMap.mpr ⟨t', List.mem_of_mem_take h1, h2⟩
        · exact List.mem_flatMap.mpr ⟨t, List.mem_of_getElem? ht, List.mem_of_mem_take z⟩
      obtain ⟨v, hv⟩ : ∃ v : Int, (valD kvs (kKK k)).getD (.int 0) = .int v := by
        by_cases z : kKK k ∈ kvs.map (·.1)
        · obtain ⟨d, h1, h2⟩ := valD_get z
          obtain ⟨v, h3⟩ := hi _ h2
          have h3 : d = .int v := h3
          exact ⟨v, by rw [h1, h3]; rfl⟩
        · refine ⟨0, ?_⟩
          cases h : valD kvs (kKK k) with
          | none => rfl
          | some d => exact absurd ((valD_iff kvs (kKK k)).mp (by rw [h]; rfl)) z
      refine tr_dputT (n := k) rfl (by omega) (ev_opD ((ev_dget2T (n := k) (dk_mineT rfl) (ev_var rfl) ev_int).eq (by rw [hv])) ev_int rd_i0) (ev_var rfl) fun t et => ⟨_, et, ?_⟩
      refine tr_next fun σ H S => ⟨_, ⟨_, _, _, rfl, hK.put k _, fun q => ?_, putD_ints hi⟩, S⟩
      rw [mem_put, hm q, take_next hk, List.mem_append, List.mem_singleton, or_assoc]
    · rintro _ ⟨t4, kvs, ks, rfl, hK, hm, hi⟩
      refine tr_next fun σ H S => ⟨_, ⟨_, _, _, _, rfl, hK, fun q => ?_, hi⟩, S⟩
      rw [hm q, etk, List.mem_append, List.take_length]
  · rintro _ ⟨t3, t4, kvs, ks, rfl, hK, hm, hi⟩
    rw [List.length_map, List.take_length] at hm
    have hkl := hcap ks hK.nd fun q hq => (hm q).mp hq
    refine tr_retN q (em_dcT (srcL (as := ks.mergeSort (leD kD)) (f := kD) (ev_sortDT (dk_mineT rfl) hK.ky (by omega))) (fun _ i acc => ∃ ls, KS acc ls ∧ ∀ q, q ∈ ls ↔ q ∈ (ks.mergeSort (leD kD)).take i) (fun n ty ⟨e, _⟩ => ⟨by rw [e, List.length_mergeSort]; omega, [], .nil, fun q => by simp⟩) (fun n ty ⟨e, hty⟩ H1 Bs D i acc hi' ⟨ls, hls, hlm⟩ => ?_) fun n ty ⟨e, _⟩ acc ⟨ls, hls, hlm⟩ => ?_) (fun _ h => h)
    · subst e
      have ha : (ks.mergeSort (leD kD))[i]? = some (ks.mergeSort (leD kD))[i] := List.getElem?_eq_getElem hi'
      generalize (ks.mergeSort (leD kD))[i] = k at ha
      have hkm : k ∈ ks := (List.mem_mergeSort).mp (List.mem_of_getElem? ha)
      obtain ⟨d, hd, _⟩ := valD_get ((hK.mem k).mpr hkm)
      rw [hty i k ha]
      refine ⟨_, _, bd_name (by show 4 < 5; decide), by decide, rfl, rfl, k, d, ev_var rfl, ev_dgetT (n := k) (dk_mineT rfl) (ev_var rfl) hd, _, hls.put k d, fun q => ?_⟩
      rw [mem_put, hlm q, take_next ha, List.mem_append, List.mem_singleton]
    · subst e
      rw [List.take_length] at hlm
      have hq : ∀ q, q ∈ ls ↔ q ∈ allPs Z := fun q => by
        rw [hlm q, List.mem_mergeSort]
        exact hm q
      exact ⟨acc, ls, rfl, hls, hcap ls hls.nd fun q h => (hq q).mp h, hq⟩
abbrev s_needed : Stmt := topS 19
abbrev N_needed : List Str := ["line", "standing", "start", "end"]
theorem sc_needed : FnScope N_needed ["line", "standing"] (defScope s_needed) := ⟨rfl, rfl, rfl, by decide +kernel, rfl, by decide +kernel, by decide +kernel⟩
theorem bd_needed (B : Bl mg) (c_key_of : Cal P w K mg base 1 "key_of" sp_key_of []) (c_passes_left : Cal P w K mg base 3 "passes_left" sp_passes_left []) : Bod P w K mg base N_needed "needed" s_needed 3 sp_needed := fun f cdv A outer s H vs Q E hr h => by
  have hu := hu_of hr
  obtain ⟨x, ts, Φ, ⟨L, Z, rfl, OZ, rfl⟩, T, hh, q⟩ := h
  refine ⟨_, (pss_cons (ps_ret (pe_callTy call_tuple_of (by rfl) B.m_tuple (by decide +kernel) (pa_cons (pe_callB (cr_sortDT rfl hr.units1) (by rfl) B.m_sorted (by decide +kernel) (pa_cons (pe_dcT (own := [("start", 2), ("end", 3)]) (g := (gTup K 2 (gCons (gName 2) (gCons (gName 3) gNil)))) (tt := tYes) (tk := (tCall sp_key_of [] E0 (tCons (tVar 2) (tCons (tVar 3) tNil)))) (tv := (tC (.bl true))) hu rfl sc_needed.nd (pi_newT (pe_c c_passes_left hr (by decide) (by rfl) (pa_cons (pv 0) (pa_cons (pv 1) pa_nil)))) (blkOk_by (own := [("start", 2), ("end", 3)]) (N := N_needed) (sc := defScope s_needed) (by decide +kernel)) (fun _ _ _ _ _ => (pg_tup rfl (pgs_cons (pg_name (i := 2) sc_needed.nd rfl (Or.inl rfl)) (pgs_cons (pg_name (i := 3) sc_needed.nd rfl (Or.inl rfl)) pgs_nil)))) (fun _ _ _ _ _ => pts_nil) (fun _ _ _ _ _ => (pe_c c_key_of hr (by decide) (by rfl) (pa_cons (pv 2) (pa_cons (pv 3) pa_nil)))) (fun _ _ _ _ _ => pe_bl)) pa_nil)) pa_nil)))
    pss_nil), ?_⟩
  refine start_F (N := N_needed) T hh ?_
  have R := ret_F q
  refine tr_retR R (Ψ := dt (.im (.tuple ((needOf Z).map kD)))) (ev_tupLP (Φ := dt (.im (.list ((needOf Z).map kD)))) (ev_sortDTM (em_dcT (Φ := fun m => ∃ kvs es, m = .dT kvs ∧ KS kvs es ∧ es.length ≤ 10000 ∧ ∀ k, k ∈ es ↔ k ∈ (allPs Z).map keyP)
    (src_newT (Ψ := fun n ty => ∃ ks : List Key2, n = ks.length ∧ ks.length ≤ 10000 ∧ (∀ q, q ∈ ks ↔ q ∈ allPs Z) ∧ ∀ i k, ks[i]? = some k → ty i = .im (kD k)) (ev_callN (ts := [.im (lD L), stnTy Z]) (ea_cons (ev_var rfl) (ea_cons (ev_var rfl) ea_nil)) ⟨L, Z, rfl, OZ, rfl⟩) ?_)
    (fun ty i acc => ∃ es : List Key2, KS acc es ∧ es.length ≤ i ∧ ∀ k, k ∈ es ↔ ∃ j a, j < i ∧ ty j = .im (kD a) ∧ keyP a = k) ?_ ?_ ?_) ?_) ?_) fun t h => h
  · rintro m ⟨kvs, ks, rfl, hK, hl, hm⟩
    have e1 : kvs.length = ks.length := by
      have := congrArg List.length hK.ky
      rwa [List.length_map, List.length_map] at this
    have e2 : (kvs.map fun q => ktD q.1) = ks.map kD := by
      show kvs.map (ktD ∘ fun q => q.1) = _
      rw [← List.map_map, hK.ky, List.map_map]
      rfl
    refine ⟨kvs, rfl, fun q hq => ?_, ks, e1, hl, hm, fun i k hi => ?_⟩
    · have : ktD q.1 ∈ ks.map kD := by
        rw [← e2]
        exact List.mem_map.mpr ⟨q, hq, rfl⟩
      obtain ⟨k, _, h⟩ := List.mem_map.mp this
      rw [← h]
      exact nlK k
    · show Ty.im ((kvs.map fun q => ktD q.1).getD i .none) = _
      rw [e2, getD_map kD hi]
  · rintro n ty ⟨ks, rfl, hl, hm, hty⟩
    exact ⟨by omega, [], .nil, Nat.zero_le _, fun k => ⟨fun m => (nomatch m), fun ⟨j, a, h, _⟩ => absurd h (Nat.not_lt_zero _)⟩⟩
  · rintro n ty ⟨ks, rfl, hl, hm, hty⟩ H1 Bs D i acc hi ⟨es, hes, hel, hem⟩
    have ha : ks[i]? = some ks[i] := List.getElem?_eq_getElem hi
    generalize ks[i] = k at ha
    have htk := hty i k ha
    rw [htk]
    refine ⟨_, _, bd_tup (bds_cons (bd_name (by show 2 < 4; decide)) (bds_cons (bd_name (by show 3 < 4; decide)) bds_nil)), by decide, rfl, rfl, keyP k, .bool true, ev_c (ts := [.im (nD k.1), .im (nD k.2)]) (ea_cons (ev_var rfl) (ea_cons (ev_var rfl) ea_nil)) ⟨k.1, k.2, rfl, rfl⟩, ev_bl, _, hes.put (keyP k) _, ?_, fun q => ?_⟩
    · split
      · omega
      · rw [List.length_append, List.length_singleton]
        omega
    · rw [mem_put, hem q]
      constructor
      · rintro (⟨j, a, h1, h2, h3⟩ | rfl)
        · exact ⟨j, a, by omega, h2, h3⟩
        · exact ⟨i, k, Nat.lt_succ_self _, htk, rfl⟩
      · rintro ⟨j, a, h1, h2, h3⟩
        by_cases hj : j = i
        · subst hj
          rw [htk] at h2
          injection h2 with h2
          rw [encK.inj h2]
          exact .inr h3.symm
        · exact .inl ⟨j, a, by omega, h2, h3⟩
  · rintro n ty ⟨ks, rfl, hl, hm, hty⟩ acc ⟨es, hes, hel, hem⟩
    refine ⟨acc, es, rfl, hes, by omega, fun k => ?_⟩
    rw [hem k, List.mem_map]
    constructor
    · rintro ⟨j, a, h1, h2, h3⟩
      have hj : ks[j]? = some ks[j] := List.getElem?_eq_getElem h1
      have := hty j _ hj
      rw [this] at h2
      injection h2 with h2
      exact ⟨a, (hm a).mp (by rw [← encK.inj h2]; exact List.getElem_mem h1), h3⟩
    · rintro ⟨a, h1, h2⟩
      obtain ⟨j, hj⟩ := List.getElem?_of_mem ((hm a).mpr h1)
      exact ⟨j, a, (List.getElem?_eq_some_iff.mp hj).1, hty j a hj, h2⟩
  · rintro m ⟨kvs, es, rfl, hK, hl, hm⟩
    refine ⟨kvs, es, rfl, hK.ky, by omega, ?_⟩
    rw [canonK_of hK.nd hm]
    rfl
  · rintro t rfl
    exact ⟨_, rfl, rfl⟩
abbrev s_far : Stmt := topS 30
abbrev N_far : List Str := ["line", "standing", "name", "place", "keys", "one", "other", "key"]
theorem sc_far : FnScope N_far ["line", "standing", "name"] (defScope s_far) := ⟨rfl, rfl, rfl, by decide +kernel, rfl, by decide +kernel, by decide +kernel⟩
theorem bd_far (B : Bl mg) (c_place_of : Cal P w K mg base 2 "place_of" sp_place_of []) (c_key_of : Cal P w K mg base 1 "key_of" sp_key_of []) (c_passes_of : Cal P w K mg base 2 "passes_of" sp_passes_of []) (c_is_far : Cal P w K mg base 5 "is_far" sp_is_far []) : Bod P w K mg base N_far "far" s_far 5 sp_far := fun f cdv A outer s H vs Q E hr h => by
  have hu := hu_of hr
  obtain ⟨x, ts, Φ, ⟨L, Z, t, rfl, O, OZ, ht, rfl⟩, T, hh, q⟩ := h
  refine ⟨_, (pss_cons (ps_asg (pe_tup (pa_cons (pe_c c_place_of hr (by decide) (by rfl) (pa_cons (pv 1) (pa_cons (pv 2) pa_nil))) (pa_cons (pe_lc (own := [("one", 5), ("other", 6)]) (g := (gTup K 2 (gCons (gName 5) (gCons (gName 6) gNil)))) (tt := tYes) (te := (tCall sp_key_of [] E0 (tCons (tVar 5) (tCons (tVar 6) tNil)))) rfl sc_far.nd (pi_tup (pe_c c_passes_of hr (by decide) (by rfl) (pa_cons (pv 1) (pa_cons (pv 2) pa_nil)))) (blkOk_by (own := [("one", 5), ("other", 6)]) (N := N_far) (sc := defScope s_far) (by decide +kernel)) (fun _ _ _ _ _ => (pg_tup rfl (pgs_cons (pg_name (i := 5) sc_far.nd rfl (Or.inl rfl)) (pgs_cons (pg_name (i := 6) sc_far.nd rfl (Or.inl rfl)) pgs_nil)))) (fun _ _ _ _ _ => pts_nil) (fun _ _ _ _ _ => (pe_c c_key_of hr (by decide) (by rfl) (pa_cons (pv 5) (pa_cons (pv 6) pa_nil))))) pa_nil))) (pg_tup rfl (pgs_cons (pg_name (i := 3) sc_far.nd rfl (Or.inr rfl)) (pgs_cons (pg_name (i := 4) sc_far.nd rfl (Or.inl rfl)) pgs_nil))))
    (pss_cons (ps_ret (pe_callTy call_tuple_of (by rfl) B.m_tuple (by decide +kernel) (pa_cons (pe_sortedSet rfl hr.units1 (by rfl) B.m_sorted (by rfl) B.m_set (pe_lc (own := [("key", 7)]) (g := (gName 7)) (tt := (tB (tCall sp_is_far [] E0 (tCons (tVar 0) (tCons (tVar 1) (tCons (tVar 3) (tCons (tVar 7) tNil))))))) (te := (tVar 7)) rfl sc_far.nd (pi_list (pv 4)) (blkOk_by (own := [("key", 7)]) (N := N_far) (sc := defScope s_far) (by decide +kernel)) (fun _ _ _ _ _ => (pg_name (i := 7) sc_far.nd rfl (Or.inl rfl))) (fun _ _ _ _ _ => (pts_one (pt_val (pe_c c_is_far hr (by decide) (by rfl) (pa_cons (pv 0) (pa_cons (pv 1) (pa_cons (pv 3) (pa_cons (pv 7) pa_nil)))))))) (fun _ _ _ _ _ => (pv 7)))) pa_nil)))
    pss_nil)), ?_⟩
  refine start_F (N := N_far) T hh ?_
  have R := ret_F q
  have hto : trainOf Z t.1 = some t := find_train OZ.nm ht
  have ho := (OZ.ps t ht).rl
  have hpl : (passesOf t).length = t.2.2.length := pf_len _ _
  refine tr_asgTD (ev_tup2 (d1 := nD t.2.1) (d2 := .list (((passesOf t).map keyP).map kD)) (ev_c (ts := [stnTy Z, .im (nD t.1)]) (ea_cons (ev_var rfl) (ea_cons (ev_var rfl) ea_nil)) ⟨Z, t.1, t, rfl, hto, rfl⟩)
    (ev_lcM (as := passesOf t) (f := kD) (h := kD) (e := keyP) (srcT (ev_c (ts := [stnTy Z, .im (nD t.1)]) (ea_cons (ev_var rfl) (ea_cons (ev_var rfl) ea_nil)) ⟨Z, t.1, t, rfl, hto, by omega, rfl⟩)) (by omega) fun H1 Bs D acc a _ => ⟨_, _, bd_tup (bds_cons (bd_name (by show 5 < 8; decide)) (bds_cons (bd_name (by show 6 < 8; decide)) bds_nil)), by decide, rfl, rfl, ?_⟩))
    (bd_tup (bds_cons (bd_name (by show 3 < 8; decide)) (bds_cons (bd_name (by show 4 < 8; decide)) bds_nil))) ?_
  · exact ev_c (ts := [.im (nD a.1), .im (nD a.2)]) (ea_cons (ev_var rfl) (ea_cons (ev_var rfl) ea_nil)) ⟨a.1, a.2, rfl, rfl⟩
  refine tr_retR R (Ψ := dt (.im (.tuple ((farOf L Z t).map kD)))) (ev_tupLP (Φ := dt (.im (.list ((farOf L Z t).map kD)))) (ev_sortSet (Φ := dt (.im (.list ((((passesOf t).map keyP).filter (farB L Z t.2.1)).map kD)))) ((ev_lcE (as := (passesOf t).map keyP) (f := kD) (h := kD) (c := farB L Z t.2.1) (e := fun k => k) (srcL (ev_var rfl)) (by rw [List.length_map]; omega) fun H1 Bs D acc a _ => ⟨_, _, bd_name (by show 7 < 8; decide), by decide, rfl, rfl, ?_, fun _ => ev_var rfl⟩).eq (by rw [List.map_id'])) ?_) ?_) fun t h => h
  · exact et_B (ev_c (ts := [.im (lD L), stnTy Z, .im (nD t.2.1), .im (kD a)]) (ea_cons (ev_var rfl) (ea_cons (ev_var rfl) (ea_cons (ev_var rfl) (ea_cons (ev_var rfl) ea_nil)))) ⟨L, Z, t.2.1, a, rfl, O, OZ, (OZ.ps t ht).pl, rfl⟩)
  · rintro _ rfl
    refine ⟨_, rfl, ?_, fun es hn hm => ?_⟩
    · have := List.length_filter_le (farB L Z t.2.1) ((passesOf t).map keyP)
      rw [List.length_map] at this
      omega
    · rw [canonK_of hn hm]
      rfl
  · rintro t rfl
    exact ⟨_, rfl, rfl⟩
abbrev s_held : Stmt := topS 26
abbrev N_held : List Str := ["line", "standing", "passed", "key"]
theorem sc_held : FnScope N_held ["line", "standing"] (defScope s_held) := ⟨rfl, rfl, rfl, by decide +kernel, rfl, by decide +kernel, by decide +kernel⟩
theorem bd_held (B : Bl mg) (c_open_run : Cal P w K mg base 7 "open_run" sp_open_run []) (c_needed : Cal P w K mg base 4 "needed" sp_needed []) (c_sort_of : Cal P w K mg base 3 "sort_of" sp_sort_of []) : Bod P w K mg base N_held "held" s_held 7 sp_held := fun f cdv A outer s H vs Q E hr h => by
  have hu := hu_of hr
  obtain ⟨x, ts, Φ, ⟨L, Z, rfl, O, OZ, rfl⟩, T, hh, q⟩ := h
  refine ⟨_, (pss_cons (ps_set (i := 2) sc_held.nd rfl (Or.inr rfl) (pe_ix ix_tup (pe_c c_open_run hr (by decide) (by rfl) (pa_cons (pv 0) (pa_cons (pv 1) pa_nil))) pe_int (fun _ _ => rfl)))
    (pss_cons (ps_ret (pe_callTy call_tuple_of (by rfl) B.m_tuple (by decide +kernel) (pa_cons (pe_lc (own := [("key", 3)]) (g := (gName 3)) (tt := (tAnd (tTest (tOp (rNotInTD K) (tVar 3) (tVar 2))) (tTest (tOp (rNeD K) (tCall sp_sort_of [] E0 (tCons (tVar 0) (tCons (tVar 3) tNil))) (tC (.str "free")))))) (te := (tVar 3)) rfl sc_held.nd (pi_tup (pe_c c_needed hr (by decide) (by rfl) (pa_cons (pv 0) (pa_cons (pv 1) pa_nil)))) (blkOk_by (own := [("key", 3)]) (N := N_held) (sc := defScope s_held) (by decide +kernel)) (fun _ _ _ _ _ => (pg_name (i := 3) sc_held.nd rfl (Or.inl rfl))) (fun _ _ _ _ _ => (pts_one (PW.pt (pw_and (pt_cmpR (op_notInTD hr.units1) (pv 3) (pv 2) (by with_unfolding_all rfl)) (pw_and1 (pt_cmpR (op_neD hr.units) (pe_c c_sort_of hr (by decide) (by rfl) (pa_cons (pv 0) (pa_cons (pv 3) pa_nil))) pe_str (nomark _))))))) (fun _ _ _ _ _ => (pv 3))) pa_nil)))
    pss_nil)), ?_⟩
  refine start_F (N := N_held) T hh ?_
  have R := ret_F q
  refine tr_asg (Φ := fun t => ∃ us ps, RunEnd L Z us ps ∧ t = .im (.tuple (ps.map kD))) (by show 2 < 4; decide) (ev_op (Φ1 := fun t => ∃ us ps, RunEnd L Z us ps ∧ t = .im (.tuple [.tuple (ps.map kD), .tuple (us.map tD)])) (Φ2 := dt (.im (.int 0))) (ev_callD (ts := [.im (lD L), stnTy Z]) (ea_cons (ev_var rfl) (ea_cons (ev_var rfl) ea_nil)) ⟨L, Z, rfl, O, OZ, rfl⟩) ev_int ?_) ?_
  · rintro _ _ ⟨us, ps, hR, rfl⟩ rfl
    exact fun M a b H T ha hb Q q => rd_ixT (d := .tuple (ps.map kD)) (by rfl) M a b H T ha hb Q fun w v H' e => q w v H' ⟨us, ps, hR, e⟩
  rintro _ ⟨us, ps, hR, rfl⟩
  have hcap : (needOf Z).length ≤ 100 := by
    refine Nat.le_trans (nodup_sub_len (m := keysL L) ?_ fun k hk => ?_) ?_
    · exact ((List.mergeSort_perm _ _).nodup_iff).mpr nodup_nub
    · obtain ⟨p, hp, rfl⟩ := List.mem_map.mp (mem_canonK.mp hk)
      obtain ⟨t, ht, hpt⟩ := List.mem_flatMap.mp hp
      obtain ⟨s, hs⟩ := (OZ.ps t ht).wk p hpt
      exact sort_key hs (keyOf_idem _ _)
    · unfold keysL
      rw [List.length_map]
      exact O.sl
  refine tr_retE R (ev_tupL (ds := (heldOf L Z).map kD) ((ev_lcE (as := needOf Z) (f := kD) (h := kD) (c := fun k => !passB L Z k && !decide (sortOf L k = some freeN)) (e := fun k => k) (srcT (ev_c (ts := [.im (lD L), stnTy Z]) (ea_cons (ev_var rfl) (ea_cons (ev_var rfl) ea_nil)) ⟨L, Z, rfl, OZ, rfl⟩)) (by omega) fun H1 Bs D acc a ha => ⟨_, _, bd_name (by show 3 < 4; decide), by decide, rfl, rfl, ?_, fun _ => ev_var rfl⟩).eq (by rw [List.map_id']; rfl)))
  obtain ⟨p, hp, rfl⟩ := List.mem_map.mp (mem_canonK.mp ha)
  obtain ⟨t, ht, hpt⟩ := List.mem_flatMap.mp hp
  obtain ⟨s, hs⟩ := (OZ.ps t ht).wk p hpt
  refine (et_and (et_test (ev_opD (ev_var rfl) (ev_var rfl) (rd_niT encK (a := keyP p) (as := ps)))) fun _ => et_test (ev_neE encS (a := s) (b := freeN) (ev_c (ts := [.im (lD L), .im (kD (keyP p))]) (ea_cons (ev_var rfl) (ea_cons (ev_var rfl) ea_nil)) ⟨L, keyP p, s, rfl, hs, rfl⟩) ev_str)).eq ?_
  congr 1
  · unfold passB
    congr 1
    exact dec_iff2 (hR.passed _)
  · rw [hs]
    congr 1
    exact dec_iff ⟨fun z => by rw [z], fun z => Option.some.inj z⟩
abbrev s_bar : Stmt := topS 31
abbrev N_bar : List Str := ["line", "standing", "name"]
theorem sc_bar : FnScope N_bar ["line", "standing", "name"] (defScope s_bar) := ⟨rfl, rfl, rfl, by decide +kernel, rfl, by decide +kernel, by decide +kernel⟩
theorem bd_bar (B : Bl mg) (c_gets_home : Cal P w K mg base 8 "gets_home" sp_gets_home []) (c_held : Cal P w K mg base 8 "held" sp_held []) : Bod P w K mg base N_bar "bar" s_bar 8 sp_bar := fun f cdv A outer s H vs Q E hr h => by
  have hu := hu_of hr
  obtain ⟨x, ts, Φ, ⟨L, Z, t, rfl, O, OZ, ht, rfl⟩, T, hh, q⟩ := h
  refine ⟨_, (pss_cons (ps_ret (pe_ifExp (pt_val (pe_c c_gets_home hr (by decide) (by rfl) (pa_cons (pv 0) (pa_cons (pv 1) (pa_cons (pv 2) pa_nil))))) pe_non (pe_c c_held hr (by decide) (by rfl) (pa_cons (pv 0) (pa_cons (pv 1) pa_nil)))))
    pss_nil), ?_⟩
  refine start_F (N := N_bar) T hh ?_
  have R := ret_F q
  refine tr_retE R (t := .im (barD L Z t)) (ev_if (et_B (ev_c (ts := [.im (lD L), stnTy Z, .im (nD t.1)]) (ea_cons (ev_var rfl) (ea_cons (ev_var rfl) (ea_cons (ev_var rfl) ea_nil))) ⟨L, Z, t, rfl, O, OZ, ht, rfl⟩)) (fun e => ?_) fun e => ?_)
  · unfold barD
    rw [if_pos e.symm]
    exact ev_non
  · unfold barD
    rw [if_neg (by rw [← e]; exact Bool.false_ne_true)]
    exact ev_c (ts := [.im (lD L), stnTy Z]) (ea_cons (ev_var rfl) (ea_cons (ev_var rfl) ea_nil)) ⟨L, Z, rfl, O, OZ, rfl⟩
end
end Sx
set_option Elab.async false
set_option linter.all false
set_option maxRecDepth 100000
set_option maxHeartbeats 4000000
namespace Sx
open PySem PySem.Spec PyProof.Rows L2
open C8 (Cal pe_c)
/-! ### the bag -/
section
variable {H0 H : Hp} {x : List Addr} {ss : SS} {σ : L2.St} {b c : Addr} {te : TE} {u : TS} {D : Ends} {K : PySem.W.Frag}
theorem Sat.bagSet (S : Sat H0 x ss σ H) (hb : ss.b = some (b, c)) {o : HO} (B : BagAt (upd H b o) b c) : Sat H0 x ss σ (upd H b o) ∧ Fr ss H (upd H b o) := by
  refine S.drawn hb ?_ B
  rw [hid_upd (List.mem_singleton.mpr rfl)]
  exact Same.refl _
theorem rf_var {i : Nat} (S : Sat H0 x ss σ H) (hi : ss.g[i]? = some (.rf b)) : σ[i]? = some (some (.ref b)) := by
  rcases S.vr i _ hi with z | ⟨v, h1, h2⟩
  · cases z
  have h2 : v = .ref b := h2
  rw [← h2]
  exact h1
/-- bag[k], a number -/
theorem ev_bag0 {i : Nat} (hb : ss.b = some (b, c)) (hi : ss.g[i]? = some (.rf b)) : Ev H0 x ss (tOp (rIxL K) (tVar i) (tC (.int 0))) (fun t => ∃ n : Int, t = .im (.int n) ∧ 0 ≤ n) := fun σ H S Q q => by
  obtain ⟨⟨nb, s0, s1, s2, cs, e1, e2, p0, p1, p2, p3, p4, p5⟩, _⟩ := S.bg b c hb
  exact ⟨_, rf_var S hi, b, _, 0, _, rfl, rfl, .inl (.inl e1), rfl, q _ _ H ⟨s0, rfl, p0⟩ S (Same.refl _) (.int _)⟩
theorem ev_bag1 {i : Nat} (hb : ss.b = some (b, c)) (hi : ss.g[i]? = some (.rf b)) : Ev H0 x ss (tOp (rIxL K) (tVar i) (tC (.int 1))) (fun t => ∃ n : Int, t = .im (.int n) ∧ 0 ≤ n ∧ n < 2147483647) := fun σ H S Q q => by
  obtain ⟨⟨nb, s0, s1, s2, cs, e1, e2, p0, p1, p2, p3, p4, p5⟩, _⟩ := S.bg b c hb
  exact ⟨_, rf_var S hi, b, _, 1, _, rfl, rfl, .inl (.inl e1), rfl, q _ _ H ⟨s1, rfl, p1, p2⟩ S (Same.refl _) (.int _)⟩
theorem ev_bag2 {i : Nat} (hb : ss.b = some (b, c)) (hi : ss.g[i]? = some (.rf b)) : Ev H0 x ss (tOp (rIxL K) (tVar i) (tC (.int 2))) (fun t => ∃ n : Int, t = .im (.int n) ∧ 0 ≤ n) := fun σ H S Q q => by
  obtain ⟨⟨nb, s0, s1, s2, cs, e1, e2, p0, p1, p2, p3, p4, p5⟩, _⟩ := S.bg b c hb
  exact ⟨_, rf_var S hi, b, _, 2, _, rfl, rfl, .inl (.inl e1), rfl, q _ _ H ⟨s2, rfl, p3⟩ S (Same.refl _) (.int _)⟩
/-- bag[3][bag[2]:] -/
theorem ev_bagCut {i : Nat} (hb : ss.b = some (b, c)) (hi : ss.g[i]? = some (.rf b)) : Ev H0 x ss (tSl (rSlL K) (tOp (rIxL K) (tVar i) (tC (.int 3))) (tPart (tOp (rIxL K) (tVar i) (tC (.int 2)))) tNoPart) (fun t => ∃ cs : List Int, t = .im (.list (cs.map PyData.int)) ∧ cs.length ≤ 63 ∧ ∀ x ∈ cs, 0 ≤ x) := fun σ H S Q q => by
  obtain ⟨⟨nb, s0, s1, s2, cs, e1, e2, p0, p1, p2, p3, p4, p5⟩, _⟩ := S.bg b c hb
  refine ⟨_, rf_var S hi, b, _, 3, _, rfl, rfl, .inl (.inl e1), rfl, ?_⟩
  refine ⟨_, rf_var S hi, b, _, 2, _, rfl, rfl, .inl (.inl e1), rfl, s2, rfl, ?_⟩
  refine ⟨c, cs.map V.int, rfl, .inl (.inl e2), fun p hp => ?_⟩
  have e : cutV (cs.map V.int) (some s2) none = (cutD cs (some s2) none).map V.int := by
    unfold cutV cutD
    rw [List.length_map, List.map_take, List.map_drop]
  have e3 := same_new (H := H) (p := p) (o := .lst (cutV (cs.map V.int) (some s2) none)) hp
  refine q _ _ _ ⟨cutD cs (some s2) none, rfl, ?_, fun x hx => ?_⟩ (S.pure e3) (hid_mono e3) (.lst (hid_new S.trk hp) ?_)
  · unfold cutD
    rw [List.length_take, List.length_drop]
    omega
  · exact p5 x (List.mem_of_mem_drop (List.mem_of_mem_take hx))
  · rw [e]
    exact ints_dqs _
theorem bag_upd {H : Hp} {b c : Addr} {s0 s1 s2 : Int} {cs : List Int} (nb : b ≠ c) (e2 : H c = some (.lst (cs.map V.int))) (h : 0 ≤ s0 ∧ 0 ≤ s1 ∧ s1 < 2147483647 ∧ 0 ≤ s2 ∧ cs.length ≤ 63 ∧ ∀ x ∈ cs, 0 ≤ x) : BagAt (upd H b (.lst [.int s0, .int s1, .int s2, .ref c])) b c :=
  ⟨nb, s0, s1, s2, cs, upd_same, by rw [upd_ne (Ne.symm nb)]; exact e2, h⟩
/-- bag[0] = e, bag[1] = e -/
theorem tr_bag0 {i : Nat} {Φ : Ty → Prop} (hb : ss.b = some (b, c)) (hi : ss.g[i]? = some (.rf b)) (h : Ev H0 x ss te Φ) (k : ∀ t, Φ t → ∃ n : Int, t = .im (.int n) ∧ 0 ≤ n) (kk : Tr H0 x ss u D) : Tr H0 x ss (tSeq (tAsg te (gSub (tVar i) (tC (.int 0)) rSetL)) u) D := fun σ H S =>
  h σ H S _ fun t v H1 p S1 e r => by
    obtain ⟨n, rfl, hn⟩ := k t p
    cases r
    obtain ⟨⟨nb, s0, s1, s2, cs, e1, e2, p0, p1, p2, p3, p4, p5⟩, _⟩ := S1.bg b c hb
    refine ⟨_, rf_var S1 hi, b, _, 0, 0, rfl, rfl, e1, rfl, kk σ _ (S1.bagSet hb (bag_upd (s0 := n) nb e2 ⟨hn, p1, p2, p3, p4, p5⟩)).1⟩
theorem tr_bag1 {i : Nat} {Φ : Ty → Prop} (hb : ss.b = some (b, c)) (hi : ss.g[i]? = some (.rf b)) (h : Ev H0 x ss te Φ) (k : ∀ t, Φ t → ∃ n : Int, t = .im (.int n) ∧ 0 ≤ n ∧ n < 2147483647) (kk : Tr H0 x ss u D) : Tr H0 x ss (tSeq (tAsg te (gSub (tVar i) (tC (.int 1)) rSetL)) u) D := fun σ H S =>
  h σ H S _ fun t v H1 p S1 e r => by
    obtain ⟨n, rfl, hn, hn2⟩ := k t p
    cases r
    obtain ⟨⟨nb, s0, s1, s2, cs, e1, e2, p0, p1, p2, p3, p4, p5⟩, _⟩ := S1.bg b c hb
    refine ⟨_, rf_var S1 hi, b, _, 1, 1, rfl, rfl, e1, rfl, kk σ _ (S1.bagSet hb (bag_upd (s1 := n) nb e2 ⟨p0, hn, hn2, p3, p4, p5⟩)).1⟩
/-- bag[2] += 1 -/
theorem tr_bag2 {i : Nat} (hb : ss.b = some (b, c)) (hi : ss.g[i]? = some (.rf b)) (kk : Tr H0 x ss u D) : Tr H0 x ss (tSeq (tAugS (tVar i) (tC (.int 2)) (tC (.int 1)) rGetL (ipI fun i j => i + j) rSetL) u) D := fun σ H S => by
  obtain ⟨⟨nb, s0, s1, s2, cs, e1, e2, p0, p1, p2, p3, p4, p5⟩, _⟩ := S.bg b c hb
  refine ⟨_, rf_var S hi, b, _, _, 2, rfl, rfl, e1, by decide, rfl, s2, 1, rfl, rfl, b, _, 2, 2, rfl, rfl, e1, rfl, kk σ _ (S.bagSet hb (bag_upd (s2 := s2 + 1) nb e2 ⟨p0, p1, p2, by omega, p4, p5⟩)).1⟩
/-! ### numbers of which something is known -/
abbrev EvI (H0 : Hp) (x : List Addr) (ss : SS) (te : TE) (P : Int → Prop) : Prop := Ev H0 x ss te (fun t => ∃ n : Int, t = .im (.int n) ∧ P n)
section
variable {ta tb : TE} {P P1 P2 : Int → Prop}
theorem evI_c {n : Int} : EvI H0 x ss (tC (.int n)) (fun m => m = n) := ev_int.imp fun t e => ⟨n, e, rfl⟩
theorem evI_var {i : Nat} {n : Int} (h : ss.g[i]? = some (.im (.int n))) : EvI H0 x ss (tVar i) (fun m => m = n) := (ev_var h).imp fun t e => ⟨n, e, rfl⟩
theorem evI_D {n : Int} (h : EvD H0 x ss te (.im (.int n))) : EvI H0 x ss te (fun m => m = n) := h.imp fun t e => ⟨n, e, rfl⟩
theorem evI_imp (h : EvI H0 x ss te P1) (k : ∀ n, P1 n → P n) : EvI H0 x ss te P := h.imp fun t ⟨n, e, p⟩ => ⟨n, e, k n p⟩
theorem evI_op {C : Int → Int → Prop} {g : Int → Int → Int} (h1 : EvI H0 x ss ta P1) (h2 : EvI H0 x ss tb P2) (k : ∀ i j, P1 i → P2 j → C i j ∧ P (g i j)) : EvI H0 x ss (tOp (rI C fun i j => .int (g i j)) ta tb) P :=
  ev_op h1 h2 fun t u ⟨i, e1, p1⟩ ⟨j, e2, p2⟩ => by
    subst e1 e2
    exact fun M a b H T ha hb Q q => rd_i (k i j p1 p2).1 M a b H T ha hb Q fun w v H' z => q w v H' ⟨_, z, (k i j p1 p2).2⟩
theorem evI_op0 {g : Int → Int → Int} (h1 : EvI H0 x ss ta P1) (h2 : EvI H0 x ss tb P2) (k : ∀ i j, P1 i → P2 j → P (g i j)) : EvI H0 x ss (tOp (rI0 fun i j => .int (g i j)) ta tb) P :=
  ev_op h1 h2 fun t u ⟨i, e1, p1⟩ ⟨j, e2, p2⟩ => by
    subst e1 e2
    exact fun M a b H T ha hb Q q => rd_i0 M a b H T ha hb Q fun w v H' z => q w v H' ⟨_, z, k i j p1 p2⟩
theorem evI_int (h : EvI H0 x ss ta P) : EvI H0 x ss (tCB rcInt (tCons ta tNil)) P := ev_cb (ea_consP h ea_nil) fun ts ⟨t, r, e, ⟨i, e1, p⟩, e2⟩ => by
  subst e2 e e1
  exact fun M vs H T h Q q => rc_int M vs H T h Q fun w v H' z => q w v H' ⟨i, z, p⟩
theorem evI_abs (h : EvI H0 x ss ta P1) (k : ∀ i, P1 i → P (if i < 0 then -i else i)) : EvI H0 x ss (tCB rcAbs (tCons ta tNil)) P := ev_cb (ea_consP h ea_nil) fun ts ⟨t, r, e, ⟨i, e1, p⟩, e2⟩ => by
  subst e2 e e1
  exact fun M vs H T h Q q => rc_abs M vs H T h Q fun w v H' z => q w v H' ⟨_, z, k i p⟩
/-- a test of two numbers -/
theorem etI {g : Int → Int → Bool} {Ψ : Bool → Prop} (h1 : EvI H0 x ss ta P1) (h2 : EvI H0 x ss tb P2) (k : ∀ i j, P1 i → P2 j → Ψ (g i j)) : EvT H0 x ss (tTest (tOp (rI0 fun i j => .bl (g i j)) ta tb)) Ψ :=
  et_testP (ev_op (Φ := fun t => ∃ b, t = .im (.bool b) ∧ Ψ b) h1 h2 fun t u ⟨i, e1, p1⟩ ⟨j, e2, p2⟩ => by
    subst e1 e2
    exact fun M a b H T ha hb Q q => rd_b0 M a b H T ha hb Q fun w v H' z => q w v H' ⟨_, z, k i j p1 p2⟩) fun t h => h
theorem etI_eq {Ψ : Bool → Prop} (h1 : EvI H0 x ss ta P1) (h2 : EvI H0 x ss tb P2) (k : ∀ i j, P1 i → P2 j → Ψ (decide (i = j))) : EvT H0 x ss (tTest (tOp (rEqD K) ta tb)) Ψ :=
  et_testP (ev_op (Φ := fun t => ∃ b, t = .im (.bool b) ∧ Ψ b) h1 h2 fun t u ⟨i, e1, p1⟩ ⟨j, e2, p2⟩ => by
    subst e1 e2
    exact fun M a b H T ha hb Q q => rd_eq encI (by decide) M a b H T ha hb Q fun w v H' z => q w v H' ⟨_, z, k i j p1 p2⟩) fun t h => h
end
/-- a draw by any def that promises at least so much -/
theorem ev_drawG {sp : Sp} {S : List Ty → (Ty → Prop) → Prop} {E : XK} {ta : TA} {Φ : Ty → Prop} {Ψ : List Ty → Prop} (hs : ∀ vs H Q, spB S vs H Q E → sp vs H Q E) (hb : ss.b = some (b, c)) (he : EvD H0 x ss te (.rf b)) (h : EvA H0 x ss ta Ψ) (k : ∀ ts, Ψ ts → ∃ Φ', S ts Φ' ∧ ∀ t, Φ' t → Φ t) : Ev H0 x ss (tCall sp [] E (tCons te ta)) Φ := fun σ H Z Q q =>
  he σ H Z _ fun t0 v0 H1 p0 S1 e1 r0 => h σ H1 S1 _ fun ts vs H2 p1 S2 e2 r => by
    obtain ⟨Φ', hS, hΦ⟩ := k ts p1
    subst p0
    have r0 : v0 = .ref b := r0
    subst r0
    obtain ⟨B, _, _⟩ := S2.bg b c hb
    have bm : b ∈ ss.bm := bm_iff.mpr ⟨c, hb⟩
    have hm : ∀ a ∈ b :: ss.M x, a ∈ ss.M x := fun a h => by
      rcases List.mem_cons.mp h with h | h
      · rw [h]
        exact List.mem_append_right _ (List.mem_append_left _ bm)
      · exact h
    have hm2 : ∀ a ∈ ss.M x, a ∈ b :: ss.M x := fun a h => List.mem_cons_of_mem _ h
    rw [List.append_nil]
    refine hs _ _ _ ⟨b, c, ss.M x, vs, ts, Φ', rfl, B, hS, S2.trk, Hold.mono (hid_sub hm) r, fun t v H3 p3 e3 B3 r3 => ?_⟩
    obtain ⟨S3, e4⟩ := S2.drawn hb e3 B3
    exact q t v H3 (hΦ t p3) S3 ((e1.trans e2).trans e4) (Ty.mono (hid_sub hm2) r3)
theorem ev_drawD {S : List Ty → (Ty → Prop) → Prop} {E : XK} {ta : TA} {Φ : Ty → Prop} {ts : List Ty} (hb : ss.b = some (b, c)) (he : EvD H0 x ss te (.rf b)) (h : EaD H0 x ss ta ts) (k : S ts Φ) : Ev H0 x ss (tCall (spB S) [] E (tCons te ta)) Φ :=
  ev_draw hb he h fun ts' e => ⟨Φ, by rw [e]; exact k, fun _ p => p⟩
end
theorem tr_ifJP {H0 : Hp} {x : List Addr} {ss : SS} {u tu tv : TS} {D : Ends} {c : TT} {Ψ : Bool → Prop} (I : SS → Prop) (h : EvT H0 x ss c Ψ) (h1 : (∀ s, I s → Tr H0 x s u D) → Ψ true → Tr H0 x ss tu { D with nx := u D }) (h2 : (∀ s, I s → Tr H0 x s u D) → Ψ false → Tr H0 x ss tv { D with nx := u D }) (k : ∀ s, I s → Tr H0 x s u D) : Tr H0 x ss (tSeq (tIfS c tu tv) u) D :=
  tr_if h (h1 k) (h2 k)
theorem tr_retA {H0 : Hp} {x : List Addr} {ss : SS} {u : TS} {D : Ends} {ta : TA} {Ψ : List Ty → List (Addr × MO) → Prop} (h : EvAm H0 x ss ta Ψ) (k : ∀ σ ts l vs H', Ψ ts l → Sat H0 x (ss.wl l) σ H' → Hold (hid ((ss.wl l).M x) H') vs ts → vs.length ≤ sizeLine ∧ ∀ q, H' q = none → D.rt (.ref q) (upd H' q (.lst vs))) : Tr H0 x ss (tSeq (tRet (tLst ta)) u) D := fun σ H S =>
  h σ H S _ fun ts l vs H' p S' _ r => k σ ts l vs H' p S' r
/-! ### promises -/
def isInts (K : PySem.W.Frag) (v : V) (H : Hp) : Prop := ∃ (a : Addr) (cs : List Int), v = .ref a ∧ SqL K H a (cs.map V.int)
def sp__law_bag (K : PySem.W.Frag) : Sp := fun vs H Q _ => ∃ v, vs = [v] ∧ isInts K v H ∧ ∀ b c H', H b = none → H c = none → BagAt H' b c → Same H H' → Q (.ref b) H'
abbrev sp__law_take : Sp := spB fun ts Φ => ∃ n : Int, ts = [.im (.int n)] ∧ 1 ≤ n ∧ n ≤ 1000000 ∧ Φ = fun t => ∃ v : Nat, t = .im (.int v) ∧ (v : Int) < n
section
variable {P : Program} {w : World} {K : PySem.W.Frag} {mg : Str → Option Value} {base : Heap}
abbrev s__law_bag : Stmt := topS 33
abbrev N__law_bag : List Str := ["_law_script", "_law_cell"]
theorem sc__law_bag : FnScope N__law_bag ["_law_script"] (defScope s__law_bag) := ⟨rfl, rfl, rfl, by decide +kernel, rfl, by decide +kernel, by decide +kernel⟩
theorem bd__law_bag (B : Bl mg)  : Bod P w K mg base N__law_bag "_law_bag" s__law_bag 0 (sp__law_bag K) := fun f cdv A outer s H vs Q E hr h => by
  have hu := hu_of hr
  obtain ⟨v, rfl, hv, q⟩ := h
  refine ⟨_, (pss_cons (ps_ret (pe_lst (pa_cons pe_int (pa_cons pe_int (pa_cons pe_int (pa_cons (pe_lc (own := [("_law_cell", 1)]) (g := (gName 1)) (tt := tYes) (te := (tCB rcAbs (tCons (tVar 1) tNil))) rfl sc__law_bag.nd (pi_list (pe_slice sl_list (pv 0) po_none (po_some pe_int))) (blkOk_by (own := [("_law_cell", 1)]) (N := N__law_bag) (sc := defScope s__law_bag) (by decide +kernel)) (fun _ _ _ _ _ => (pg_name (i := 1) sc__law_bag.nd rfl (Or.inl rfl))) (fun _ _ _ _ _ => pts_nil) (fun _ _ _ _ _ => (pe_callB call_abs (by rfl) B.m_abs (by decide +kernel) (pa_cons (pv 1) pa_nil)))) pa_nil))))))
    pss_nil), ?_⟩
  have T : Trk [] H := fun a m => nomatch m
  have hh : Hold (hid [] H) [v] [.pr (isInts K)] := ⟨fun H' e => by
    obtain ⟨a, cs, e1, e2⟩ := hv
    rw [dq_hid0] at e
    exact ⟨a, cs, e1, sql_mono e e2⟩, trivial⟩
  refine start_F (x := []) (N := N__law_bag) T hh ?_
  refine tr_retA (am_consD ev_int (am_consD ev_int (am_consD ev_int (am_consM (em_lc (Φ := fun m => ∃ ns : List Int, m = .lst (ns.map PyData.int) ∧ ns.length ≤ 63 ∧ ∀ x ∈ ns, 0 ≤ x) (srcP_list (Φ := fun t => ∃ cs : List Int, t = .im (.list (cs.map PyData.int)) ∧ cs.length ≤ 63) (Ψ := fun n ty => n ≤ 63 ∧ ∀ i, i < n → ∃ k : Int, ty i = .im (.int k)) ?_ ?_)
    (fun _ i acc => ∃ ns : List Int, acc = ns.map PyData.int ∧ ns.length ≤ i ∧ ∀ x ∈ ns, 0 ≤ x) (fun n ty ⟨h, _⟩ => ⟨by omega, [], rfl, Nat.zero_le _, fun _ m => (nomatch m)⟩) ?_ ?_) fun p m _ => am_nil)))) ?_
  · intro σ H2 S2 Q' q'
    rcases S2.vr 0 _ rfl with z | ⟨w, h1, h2⟩
    · cases z
    obtain ⟨a, cs, rfl, hR⟩ := h2 _ (Same.refl _)
    have hR : SqL K H2 a (cs.map V.int) := sql_mono same_hid hR
    refine ⟨_, h1, 63, rfl, a, cs.map V.int, rfl, hR, fun p hp => ?_⟩
    have e : cutV (cs.map V.int) none (some 63) = (cutD cs none (some 63)).map V.int := by
      unfold cutV cutD
      rw [List.length_map, List.map_take, List.map_drop]
    have e3 := same_new (H := H2) (p := p) (o := .lst (cutV (cs.map V.int) none (some 63))) hp
    refine q' _ _ _ ⟨cutD cs none (some 63), rfl, ?_⟩ (S2.pure e3) (hid_mono e3) (.lst (hid_new S2.trk hp) ?_)
    · unfold cutD
      rw [List.length_take, HT.sIx_none, show (some (63 : Int)) = some ((63 : Nat) : Int) from rfl, HT.sIx_nat]
      omega
    · rw [e]
      exact ints_dqs _
  · rintro t ⟨cs, rfl, hl⟩
    refine ⟨_, rfl, by rw [List.length_map]; exact hl, fun i hi => ?_⟩
    rw [List.length_map] at hi
    exact ⟨cs[i], congrArg Ty.im (getD_map PyData.int (List.getElem?_eq_getElem hi))⟩
  · rintro n ty ⟨hn, hty⟩ H2 Bs D i acc hi ⟨ns, rfl, hl, hp⟩
    obtain ⟨k, hk⟩ := hty i hi
    rw [hk]
    refine ⟨_, _, bd_name (by show 1 < 2; decide), by decide, rfl, rfl, fun b => b = true, et_yes, (fun e => by cases e), fun _ => ?_⟩
    refine (evI_abs (P := fun n => 0 ≤ n) (evI_var rfl) fun i e => by split <;> omega).imp fun t ⟨n, e, hn⟩ => ⟨_, e, ns ++ [n], by rw [List.map_append]; rfl, by rw [List.length_append, List.length_singleton]; omega, fun x m => ?_⟩
    rcases List.mem_append.mp m with m | m
    · exact hp x m
    · rw [List.mem_singleton.mp m]
      exact hn
  · rintro n ty ⟨hn, _⟩ acc ⟨ns, rfl, hl, hp⟩
    exact ⟨ns, rfl, by omega, hp⟩
  · rintro σ ts l vs H2 ⟨t1, r1, rfl, rfl, t2, r2, rfl, rfl, t3, r3, rfl, rfl, p, m, r4, l', rfl, rfl, ⟨ns, rfl, hl, hp⟩, rfl, rfl⟩ S2 r
    obtain ⟨v1, vs, rfl⟩ : ∃ v1 vs', vs = v1 :: vs' := by cases vs with | nil => exact r.elim | cons a b => exact ⟨a, b, rfl⟩
    obtain ⟨v2, vs, rfl⟩ : ∃ v1 vs', vs = v1 :: vs' := by cases vs with | nil => exact r.2.elim | cons a b => exact ⟨a, b, rfl⟩
    obtain ⟨v3, vs, rfl⟩ : ∃ v1 vs', vs = v1 :: vs' := by cases vs with | nil => exact r.2.2.elim | cons a b => exact ⟨a, b, rfl⟩
    obtain ⟨v4, vs, rfl⟩ : ∃ v1 vs', vs = v1 :: vs' := by cases vs with | nil => exact r.2.2.2.elim | cons a b => exact ⟨a, b, rfl⟩
    obtain rfl : vs = [] := by cases vs with | nil => rfl | cons a b => exact r.2.2.2.2.elim
    obtain ⟨r1, r2, r3, r4, _⟩ := r
    cases r1
    cases r2
    cases r3
    have r4 : v4 = .ref p := r4
    subst r4
    refine ⟨by show 4 ≤ sizeLine; decide, fun b hb => ?_⟩
    obtain ⟨h0p, us, hp2, hds⟩ := S2.ls (p, .lst (ns.map PyData.int)) List.mem_cons_self
    rw [dqs_ints hds] at hp2
    have hne : b ≠ p := fun z => by
      rw [z] at hb
      have hp2 : H2 p = _ := hp2
      rw [hp2] at hb
      cases hb
    have hH : Same H H2 := fun a o h => S2.fr a o (fun m => nomatch m) h
    have hb0 : H b = none := by
      cases z : H b with
      | none => rfl
      | some o =>
        rw [hH b o z] at hb
        cases hb
    exact q b p _ hb0 h0p ⟨hne, 0, 1234567891, 0, ns, upd_same, by rw [upd_ne (Ne.symm hne)]; exact hp2, by omega, by omega, by omega, by omega, hl, hp⟩ (hH.trans (same_new hb))
abbrev s__law_take : Stmt := topS 34
abbrev N__law_take : List Str := ["_law_bag_here", "_law_many", "_law_cell", "_law_stirred", "_law_value", "_law_begin", "_law_second"]
theorem sc__law_take : FnScope N__law_take ["_law_bag_here", "_law_many"] (defScope s__law_take) := ⟨rfl, rfl, rfl, by decide +kernel, rfl, by decide +kernel, by decide +kernel⟩
theorem bd__law_take (B : Bl mg)  : Bod P w K mg base N__law_take "_law_take" s__law_take 0 sp__law_take := fun f cdv A outer s H vs Q E hr h => by
  have hu := hu_of hr
  obtain ⟨b, c, x, us, ts, Φ, rfl, Bg, ⟨n, rfl, h1, h2, rfl⟩, T, hh, q⟩ := h
  refine ⟨_, (pss_cons (ps_if (pt_cmpR (op_eqD hr.units) (pe_ix ix_list (pv 0) pe_int (fun _ _ => rfl)) pe_int (nomark _))
      (pss_cons (ps_set (i := 2) sc__law_take.nd rfl (Or.inl rfl) (pe_ix ix_list (pe_op op_cat (pe_slice sl_list (pe_ix ix_list (pv 0) pe_int (fun _ _ => rfl)) (po_some (pe_ix ix_list (pv 0) pe_int (fun _ _ => rfl))) po_none) (pe_lst (pa_cons pe_int pa_nil))) pe_int (fun _ _ => rfl)))
      (pss_cons (ps_augS (pv 0) pe_int get_list pe_int ip_add set_list)
      (pss_cons (ps_if (pt_cmpR op_ge (pv 2) (pe_op op_pow pe_int pe_int) (nomark _))
        (pss_cons (ps_asg (pv 2) (pg_sub (pv 0) pe_int set_list))
        pss_nil)
        pss_nil)
      (pss_cons (ps_set (i := 3) sc__law_take.nd rfl (Or.inl rfl) (pe_op op_add (pe_op op_add (pe_op op_mul (pe_ix ix_list (pv 0) pe_int (fun _ _ => rfl)) pe_int) (pe_op op_mod (pe_callTy call_int1 (by rfl) B.m_int (by decide +kernel) (pa_cons (pv 2) pa_nil)) pe_int)) (pe_op op_mul pe_int (pe_ix ix_list (pv 0) pe_int (fun _ _ => rfl)))))
      (pss_cons (ps_asg (pe_op op_mod (pe_callTy call_int1 (by rfl) B.m_int (by decide +kernel) (pa_cons (pv 3) pa_nil)) pe_int) (pg_sub (pv 0) pe_int set_list))
      pss_nil)))))
      pss_nil)
    (pss_cons (ps_if (pt_cmpR op_gt (pe_ix ix_list (pv 0) pe_int (fun _ _ => rfl)) pe_int (nomark _))
      (pss_cons (ps_set (i := 4) sc__law_take.nd rfl (Or.inl rfl) (pe_op op_mod (pe_callTy call_int1 (by rfl) B.m_int (by decide +kernel) (pa_cons (pe_ix ix_list (pv 0) pe_int (fun _ _ => rfl)) pa_nil)) (pv 1)))
      (pss_cons (ps_asg (pe_op op_fdiv (pe_callTy call_int1 (by rfl) B.m_int (by decide +kernel) (pa_cons (pe_ix ix_list (pv 0) pe_int (fun _ _ => rfl)) pa_nil)) (pv 1)) (pg_sub (pv 0) pe_int set_list))
      (pss_cons (ps_ret (pv 4))
      pss_nil)))
      pss_nil)
    (pss_cons (ps_set (i := 5) sc__law_take.nd rfl (Or.inl rfl) (pe_op op_mod (pe_callTy call_int1 (by rfl) B.m_int (by decide +kernel) (pa_cons (pe_op op_mul (pe_op op_add (pe_ix ix_list (pv 0) pe_int (fun _ _ => rfl)) pe_int) pe_int) pa_nil)) pe_int))
    (pss_cons (ps_set (i := 6) sc__law_take.nd rfl (Or.inl rfl) (pe_op op_mod (pe_callTy call_int1 (by rfl) B.m_int (by decide +kernel) (pa_cons (pe_op op_mul (pe_op op_mod (pe_callTy call_int1 (by rfl) B.m_int (by decide +kernel) (pa_cons (pe_op op_mul (pv 5) (pv 5)) pa_nil)) pe_int) pe_int) pa_nil)) pe_int))
    (pss_cons (ps_ret (pe_op op_mod (pe_callTy call_int1 (by rfl) B.m_int (by decide +kernel) (pa_cons (pe_op op_fdiv (pv 6) pe_int) pa_nil)) (pv 1)))
    pss_nil))))), ?_⟩
  refine start_B (N := N__law_take) Bg T hh ?_
  have R := ret_B q
  refine tr_ifJP (fun s => ∃ t2 t3 t4 t5 t6, s = ⟨[.rf b, .im (.int n), t2, t3, t4, t5, t6], [], some (b, c)⟩) (Ψ := fun _ => True) (etI_eq (P1 := fun n => 0 ≤ n) (ev_bag0 rfl rfl) evI_c fun _ _ _ _ => trivial) (fun kk _ => ?_) (fun kk _ => kk _ ⟨_, _, _, _, _, rfl⟩) ?_
  · refine tr_asg (Φ := fun t => ∃ v : Int, t = .im (.int v) ∧ 0 ≤ v) (by show 2 < 7; decide) (ev_op (Φ1 := fun t => ∃ cs : List Int, t = .im (.list (cs.map PyData.int)) ∧ cs ≠ [] ∧ ∀ x ∈ cs, 0 ≤ x) (ev_op (Φ2 := dt (.im (.list [.int 0]))) (ev_bagCut rfl rfl) (ev_lst1 ev_int) ?_) ev_int ?_) ?_
    · rintro _ _ ⟨cs, rfl, hl, hp⟩ rfl
      refine fun M a b H T ha hb Q q => rd_catL (by rw [List.length_map]; show cs.length + 1 ≤ 100000; omega) M a b H T ha hb Q fun w v H' e => q w v H' ⟨cs ++ [0], ?_, by simp, fun x m => ?_⟩
      · rw [e, List.map_append]
        rfl
      · rcases List.mem_append.mp m with m | m
        · exact hp x m
        · rw [List.mem_singleton.mp m]
          omega
    · rintro _ _ ⟨cs, rfl, hne, hp⟩ rfl
      cases cs with
      | nil => exact absurd rfl hne
      | cons v cs => exact fun M a b H T ha hb Q q => rd_ixL (d := .int v) (by rw [List.map_cons]; exact at_0 _ _) M a b H T ha hb Q fun w u H' e => q w u H' ⟨v, e, hp v List.mem_cons_self⟩
    rintro _ ⟨v, rfl, hv⟩
    refine tr_bag2 rfl rfl ?_
    refine tr_ifJP (fun s => s = ⟨[.rf b, .im (.int n), .im (.int v), .any, .any, .any, .any], [], some (b, c)⟩) (Ψ := fun _ => True) (etI (evI_var rfl) (evI_op (P := fun _ => True) evI_c evI_c fun i j hi hj => ?_) fun _ _ _ _ => trivial) (fun kk _ => ?_) (fun kk _ => kk _ rfl) ?_
    · subst hi hj
      exact ⟨by unfold CPow; decide, trivial⟩
    · exact tr_bag0 rfl rfl (ev_var rfl) (fun t e => ⟨v, e, hv⟩) (kk _ rfl)
    rintro _ rfl
    refine tr_asg (by show 3 < 7; decide) (evI_op0 (P := fun _ => True) (evI_op0 (P := fun _ => True) (evI_op (P := fun _ => True) (ev_bag1 rfl rfl) evI_c fun i j hi hj => ⟨.inl (by omega), trivial⟩) (evI_op (P := fun _ => True) (evI_int (evI_var rfl)) evI_c fun i j hi hj => ⟨by omega, trivial⟩) fun _ _ _ _ => trivial) (evI_op (P := fun _ => True) evI_c (ev_bag2 rfl rfl) fun i j hi hj => ⟨.inl (by omega), trivial⟩) fun _ _ _ _ => trivial) ?_
    rintro _ ⟨v3, rfl, _⟩
    refine tr_bag1 rfl rfl (evI_op (P := fun v => 0 ≤ v ∧ v < 2147483647) (evI_int (evI_var rfl)) evI_c fun i j _ hj => ?_) (fun t ⟨m, e, hm⟩ => ⟨m, e, hm.1, hm.2⟩) (kk _ ⟨_, _, _, _, _, rfl⟩)
    subst hj
    exact ⟨by omega, Int.emod_nonneg i (by omega), Int.emod_lt_of_pos i (by omega)⟩
  · rintro _ ⟨t2, t3, t4, t5, t6, rfl⟩
    refine tr_if (Ψ := fun _ => True) (etI (ev_bag0 rfl rfl) evI_c fun _ _ _ _ => trivial) (fun _ => ?_) fun _ => ?_
    · refine tr_asg (by show 4 < 7; decide) (evI_op (P := fun v => 0 ≤ v ∧ v < n) (evI_int (ev_bag0 rfl rfl)) (evI_var rfl) fun i j hi hj => ?_) ?_
      · subst hj
        exact ⟨by omega, Int.emod_nonneg i (by omega), Int.emod_lt_of_pos i (by omega)⟩
      rintro _ ⟨v, rfl, hv⟩
      refine tr_bag0 rfl rfl (evI_op (P := fun v => 0 ≤ v) (evI_int (ev_bag0 rfl rfl)) (evI_var rfl) fun i j hi hj => ?_) (fun t h => h) ?_
      · subst hj
        exact ⟨⟨by omega, by omega⟩, Int.ediv_nonneg hi (by omega)⟩
      refine tr_retR R (evI_var rfl) fun t ⟨m, e, hm⟩ => ⟨v.toNat, ?_, by omega⟩
      rw [e, hm, Int.toNat_of_nonneg hv.1]
    · refine tr_asg (by show 5 < 7; decide) (evI_op (P := fun v => 0 ≤ v ∧ v < 1000000007) (evI_int (evI_op (P := fun _ => True) (evI_op0 (P := fun v => v ≤ 2147483647 ∧ 0 ≤ v) (ev_bag1 rfl rfl) evI_c fun i j hi hj => by omega) evI_c fun i j hi hj => ⟨.inl (by omega), trivial⟩)) evI_c fun i j _ hj => ?_) ?_
      · subst hj
        exact ⟨by omega, Int.emod_nonneg i (by omega), Int.emod_lt_of_pos i (by omega)⟩
      rintro _ ⟨v5, rfl, hv5⟩
      refine tr_asg (by show 6 < 7; decide) (evI_op (P := fun v => 0 ≤ v ∧ v < 998244353) (evI_int (evI_op (P := fun _ => True) (evI_op (P := fun v => 0 ≤ v ∧ v < 998244353) (evI_int (evI_op (P := fun _ => True) (evI_var rfl) (evI_var rfl) fun i j hi hj => ⟨.inl (by omega), trivial⟩)) evI_c fun i j _ hj => ?_) evI_c fun i j hi hj => ⟨.inl (by omega), trivial⟩)) evI_c fun i j _ hj => ?_) ?_
      · subst hj
        exact ⟨by omega, Int.emod_nonneg i (by omega), Int.emod_lt_of_pos i (by omega)⟩
      · subst hj
        exact ⟨by omega, Int.emod_nonneg i (by omega), Int.emod_lt_of_pos i (by omega)⟩
      rintro _ ⟨v6, rfl, hv6⟩
      refine tr_retR R (evI_op (P := fun v => 0 ≤ v ∧ v < n) (evI_int (evI_op (P := fun _ => True) (evI_var rfl) evI_c fun i j hi hj => ⟨⟨by omega, by omega⟩, trivial⟩)) (evI_var rfl) fun i j _ hj => ?_) fun t ⟨v, e, hv⟩ => ⟨v.toNat, ?_, by omega⟩
      · subst hj
        exact ⟨by omega, Int.emod_nonneg i (by omega), Int.emod_lt_of_pos i (by omega)⟩
      · rw [e, Int.toNat_of_nonneg hv.1]
end
end Sx
set_option Elab.async false
set_option linter.all false
set_option maxRecDepth 100000
set_option maxHeartbeats 4000000
namespace Sx
open PySem PySem.Spec PyProof.Rows L2
open C8 (Cal pe_c)
/-! ### low texts -/
def Lo (z : Str) : Prop := ∀ c ∈ z.cps.toList, 97 ≤ c ∧ c ≤ 122
theorem Lo.ok {z : Str} (h : Lo z) : PyData.strOk z = true := by
  unfold PyData.strOk
  rw [← Array.all_toList, List.all_eq_true]
  intro c hc
  have := h c hc
  exact decide_eq_true (by omega)
theorem Lo.app {y z : Str} (h : Lo y) (h' : Lo z) : Lo (y ++ z) := fun c hc => by
  have e : (y ++ z).cps.toList = y.cps.toList ++ z.cps.toList := Array.toList_append
  rw [e] at hc
  rcases List.mem_append.mp hc with m | m
  · exact h c m
  · exact h' c m
theorem len_app (y z : Str) : (y ++ z).length = y.length + z.length := Array.size_append
theorem str_len (z : Str) : z.cps.toList.length = z.length := Array.length_toList
theorem Lo.cut {z : Str} (h : Lo z) (lo hi : Option Int) : Lo (cutS z lo hi) := fun c hc => by
  unfold cutS at hc
  rw [List.toList_toArray] at hc
  exact h c (List.mem_of_mem_drop (List.mem_of_mem_take hc))
abbrev abc : Str := "abcdefghijklmnopqrstuvwxyz"
theorem abc_at : ∀ i : Nat, i < 26 → atI abc.cps.toList (i : Int) = some (97 + i) := by decide +kernel
abbrev ch (c : Nat) : Str := ⟨#[c]⟩
theorem Lo.ch {c : Nat} (h : 97 ≤ c ∧ c ≤ 122) : Lo (ch c) := fun d hd => by
  have hd : d ∈ [c] := hd
  rw [List.mem_singleton.mp hd]
  exact h
theorem perm_map_inv {α β : Type} {f : α → β} : ∀ {as : List α} {bs : List β}, bs.Perm (as.map f) → ∃ cs : List α, cs.Perm as ∧ bs = cs.map f := by
  intro as bs h
  generalize e : as.map f = ds at h
  induction h generalizing as with
  | nil =>
    exact ⟨as, .refl _, e.symm⟩
  | cons x p ih =>
    cases as with
    | nil => cases e
    | cons a as =>
      rw [List.map_cons] at e
      injection e with e1 e2
      obtain ⟨cs, h1, h2⟩ := ih e2
      exact ⟨a :: cs, h1.cons a, by rw [List.map_cons, h2, e1]⟩
  | swap x y l =>
    cases as with
    | nil => cases e
    | cons a as =>
      cases as with
      | nil =>
        rw [List.map_cons] at e
        injection e with e1 e2
        cases e2
      | cons a2 as =>
        rw [List.map_cons, List.map_cons] at e
        injection e with e1 e2
        injection e2 with e2 e3
        exact ⟨a2 :: a :: as, .swap _ _ _, by rw [List.map_cons, List.map_cons, e1, e2, e3]⟩
  | trans p q ih1 ih2 =>
    obtain ⟨cs, h1, h2⟩ := ih2 e
    obtain ⟨ds, h3, h4⟩ := ih1 h2.symm
    exact ⟨ds, h3.trans h1, h4⟩
/-- a list of things made turn by turn, each with its mark -/
theorem ev_lcN {H0 : Hp} {x : List Addr} {ss : SS} {wi : TI} {g : TG} {te : TE} {vs : List Nat} {n : Nat} {h : Nat → PyData} {Gd : Nat → Str → Prop} (hs : SrcP H0 x ss wi (fun m ty => m = n ∧ ∀ i, i < n → ty i = .im (h i))) (hn : n ≤ 100000)
    (step : ∀ H1, Bs x ss.b H0 H1 → ∀ D acc i, i < n → ∃ ws s', Bd H1 x g (ss.cm vs D acc) (.im (h i)) ws s' ∧ (∀ w ∈ ws, w ∈ vs) ∧ s'.l = (D, .lst acc) :: ss.l ∧ s'.b = ss.b ∧ Ev H1 x s' te (fun t => ∃ z, t = .im (.str z) ∧ Gd i z)) :
    Ev H0 x ss (tLc wi g tYes te vs) (fun t => ∃ zs : List Str, t = .im (.list (zs.map PyData.str)) ∧ zs.length = n ∧ ∀ j z, zs[j]? = some z → Gd j z) :=
  ev_lc hs (fun _ i acc => ∃ zs : List Str, acc = zs.map PyData.str ∧ zs.length = i ∧ ∀ (j : Nat) (z : Str), zs[j]? = some z → Gd j z) (fun m ty ⟨e, _⟩ => ⟨by omega, [], rfl, rfl, fun j z e => by simp at e⟩) (fun m ty ⟨e, hty⟩ H1 B D i acc hi ⟨zs, e1, e2, e3⟩ => by
    subst e
    obtain ⟨ws, s', a1, a2, a3, a4, a5⟩ := step H1 B D acc i hi
    rw [hty i hi]
    refine ⟨ws, s', a1, a2, a3, a4, fun b => b = true, et_yes, (fun e => by cases e), fun _ => a5.imp fun t ⟨z, et, gz⟩ => ⟨_, et, zs ++ [z], by rw [e1, List.map_append]; rfl, by rw [List.length_append, List.length_singleton, e2], fun j y hj => ?_⟩⟩
    by_cases hl : j < zs.length
    · rw [List.getElem?_append_left hl] at hj
      exact e3 j y hj
    · rw [List.getElem?_append_right (by omega)] at hj
      have h1 := (List.getElem?_eq_some_iff.mp hj).1
      have h1 : j - zs.length < 1 := h1
      have h0 : j - zs.length = 0 := by omega
      rw [h0] at hj
      have hj : z = y := Option.some.inj hj
      subst hj
      rw [show j = i by omega]
      exact gz) fun m ty ⟨e, _⟩ acc ⟨zs, e1, e2, e3⟩ => ⟨zs, by rw [e1], by rw [e2, e], e3⟩
/-- marked texts are so many names -/
theorem to_names {n : Nat} {Gd : Nat → Str → Prop} (h1 : ∀ j z, j < n → Gd j z → Lo z ∧ z.length ≤ 24) (h2 : ∀ i j z, i < n → j < n → Gd i z → Gd j z → i = j) {zs : List Str} (hl : zs.length = n) (hz : ∀ (j : Nat) (z : Str), zs[j]? = some z → Gd j z) :
    ∃ ns : List Nm, ns.Nodup ∧ ns.length = n ∧ zs.map PyData.str = ns.map nD := by
  have all : ∀ z ∈ zs, PyData.strOk z = true ∧ z.length ≤ 24 := fun z m => by
    obtain ⟨j, hj⟩ := List.getElem?_of_mem m
    have hlt := (List.getElem?_eq_some_iff.mp hj).1
    obtain ⟨a, b⟩ := h1 j z (by omega) (hz j z hj)
    exact ⟨a.ok, b⟩
  have nd : zs.Nodup := by
    refine List.pairwise_iff_getElem.mpr fun i j hi hj hij e => ?_
    have hi1 : zs[i]? = some zs[i] := List.getElem?_eq_getElem hi
    have hj1 : zs[j]? = some zs[j] := List.getElem?_eq_getElem hj
    rw [e] at hi1
    have := h2 i j zs[j] (by omega) (by omega) (hz i _ hi1) (hz j _ hj1)
    omega
  refine ⟨zs.attach.map fun z => ⟨z.1, all z.1 z.2⟩, ?_, by rw [List.length_map, List.length_attach, hl], ?_⟩
  · have hm : (zs.attach.map fun z => (⟨z.1, all z.1 z.2⟩ : Nm)).map (fun n => n.1) = zs := by
      rw [List.map_map]
      show zs.attach.map (fun z => z.1) = zs
      exact List.attach_map_subtype_val zs
    refine List.Pairwise.of_map (S := fun a b => a ≠ b) (fun n : Nm => n.1) (fun a b h e => h (congrArg (fun n : Nm => n.1) e)) ?_
    rw [hm]
    exact nd
  · rw [List.map_map]
    have := congrArg (List.map PyData.str) (List.attach_map_subtype_val zs)
    rw [List.map_map] at this
    exact this.symm
theorem abc_lo : Lo abc := by
  have : ∀ c ∈ abc.cps.toList, 97 ≤ c ∧ c ≤ 122 := by decide +kernel
  exact this
theorem joinL_one : ∀ cs : List Nat, TL.joinL [] (cs.map fun c => [c]) = cs
  | [] => rfl
  | [c] => rfl
  | c :: d :: cs => by
    show [c] ++ ([] ++ TL.joinL [] ((d :: cs).map fun c => [c])) = _
    rw [joinL_one (d :: cs)]
    rfl
theorem join_ch (cs : List Nat) : Txt.join "" (cs.map ch) = ⟨cs.toArray⟩ := by
  have h := SX.join_S [] (cs.map fun c => [c])
  rw [joinL_one, List.map_map] at h
  exact h
theorem sum_ch : ∀ cs : List Nat, ((cs.map ch).map (·.length)).sum = cs.length
  | [] => rfl
  | c :: cs => by
    rw [List.map_cons, List.map_cons, List.sum_cons, sum_ch cs, List.length_cons]
    show 1 + cs.length = _
    omega
/-! ### promises -/
def spOr (a b : Sp) : Sp := fun vs H Q E => a vs H Q E ∨ b vs H Q E
abbrev spSomeL : Sp := spB fun ts Φ => ∃ ds : List PyData, ts = [.im (.list ds)] ∧ ds ≠ [] ∧ ds.length ≤ 100000 ∧ Φ = fun t => ∃ d ∈ ds, t = .im d
abbrev spSomeS : Sp := spB fun ts Φ => ∃ z : Str, ts = [.im (.str z)] ∧ z.length ≠ 0 ∧ z.length ≤ 100000 ∧ Φ = fun t => ∃ c ∈ z.cps.toList, t = .im (.str (ch c))
abbrev sp__law_some : Sp := spOr spSomeL spSomeS
abbrev sp__law_mixed : Sp := spB fun ts Φ => ∃ ds : List PyData, ts = [.im (.list ds)] ∧ ds.length ≤ 1000 ∧ Φ = fun t => ∃ es : List PyData, es.Perm ds ∧ t = .im (.list es)
abbrev sp__law_word : Sp := spB fun ts Φ => ∃ n : Nat, ts = [.im (.int n)] ∧ 1 ≤ n ∧ n ≤ 100 ∧ Φ = fun t => ∃ z : Str, t = .im (.str z) ∧ Lo z ∧ 1 ≤ z.length ∧ z.length ≤ n
abbrev sp__law_names : Sp := spB fun ts Φ => ∃ n : Nat, ts = [.im (.int n)] ∧ n ≤ 10 ∧ Φ = fun t => ∃ ns : List Nm, ns.Nodup ∧ ns.length = n ∧ t = .im (.list (ns.map nD))
section
variable {H0 : Hp} {x : List Addr} {ss : SS} {b c : Addr} {te ta : TE} {E : XK}
theorem ev_someL {Φ : Ty → Prop} {ds : List PyData} (hb : ss.b = some (b, c)) (he : EvD H0 x ss te (.rf b)) (h : EvD H0 x ss ta (.im (.list ds))) (h1 : ds ≠ []) (h2 : ds.length ≤ 100000) (k : ∀ d ∈ ds, Φ (.im d)) : Ev H0 x ss (tCall sp__law_some [] E (tCons te (tCons ta tNil))) Φ :=
  ev_drawG (S := fun ts Φ => ∃ ds : List PyData, ts = [.im (.list ds)] ∧ ds ≠ [] ∧ ds.length ≤ 100000 ∧ Φ = fun t => ∃ d ∈ ds, t = .im d) (fun vs H Q z => .inl z) hb he (ea_cons h ea_nil) fun ts e => ⟨_, ⟨ds, e, h1, h2, rfl⟩, fun t ⟨d, m, et⟩ => by rw [et]; exact k d m⟩
theorem ev_someS {Φ : Ty → Prop} {z : Str} (hb : ss.b = some (b, c)) (he : EvD H0 x ss te (.rf b)) (h : EvD H0 x ss ta (.im (.str z))) (h1 : z.length ≠ 0) (h2 : z.length ≤ 100000) (k : ∀ c ∈ z.cps.toList, Φ (.im (.str (ch c)))) : Ev H0 x ss (tCall sp__law_some [] E (tCons te (tCons ta tNil))) Φ :=
  ev_drawG (S := fun ts Φ => ∃ z : Str, ts = [.im (.str z)] ∧ z.length ≠ 0 ∧ z.length ≤ 100000 ∧ Φ = fun t => ∃ c ∈ z.cps.toList, t = .im (.str (ch c))) (fun vs H Q z => .inr z) hb he (ea_cons h ea_nil) fun ts e => ⟨_, ⟨z, e, h1, h2, rfl⟩, fun t ⟨d, m, et⟩ => by rw [et]; exact k d m⟩
/-- take(bag, n) -/
theorem ev_take {n : Int} (hb : ss.b = some (b, c)) (he : EvD H0 x ss te (.rf b)) (h : EvD H0 x ss ta (.im (.int n))) (h1 : 1 ≤ n) (h2 : n ≤ 1000000) : Ev H0 x ss (tCall sp__law_take [] E (tCons te (tCons ta tNil))) (fun t => ∃ v : Nat, t = .im (.int v) ∧ (v : Int) < n) :=
  ev_drawD hb he (ea_cons h ea_nil) ⟨n, rfl, h1, h2, rfl⟩
end
section
variable {P : Program} {w : World} {K : PySem.W.Frag} {mg : Str → Option Value} {base : Heap}
abbrev s__law_some : Stmt := topS 35
abbrev N__law_some : List Str := ["_law_bag_here", "_law_things"]
theorem sc__law_some : FnScope N__law_some ["_law_bag_here", "_law_things"] (defScope s__law_some) := ⟨rfl, rfl, rfl, by decide +kernel, rfl, by decide +kernel, by decide +kernel⟩
theorem bd__law_some (B : Bl mg) (c__law_take : Cal P w K mg base 1 "_law_take" sp__law_take []) : Bod P w K mg base N__law_some "_law_some" s__law_some 1 sp__law_some := fun f cdv A outer s H vs Q E hr h => by
  have hu := hu_of hr
  rcases h with h | h
  · obtain ⟨b, c, x, us, ts, Φ, rfl, Bg, ⟨ds, rfl, h1, h2, rfl⟩, T, hh, q⟩ := h
    refine ⟨_, (pss_cons (ps_ret (pe_ix ix_list (pv 1) (pe_c c__law_take hr (by decide) (by rfl) (pa_cons (pv 0) (pa_cons (pe_callB call_len_seq (by rfl) B.m_len PySem.boot_len (pa_cons (pv 1) pa_nil)) pa_nil))) (fun _ _ => rfl)))
      pss_nil), ?_⟩
    refine start_B (N := N__law_some) Bg T hh ?_
    have R := ret_B q
    have hp := List.length_pos_iff.mpr h1
    refine tr_retR R (Ψ := fun t => ∃ d ∈ ds, t = .im d) (ev_op (Φ1 := dt (.im (.list ds))) (ev_var rfl) (ev_take (n := ds.length) rfl (ev_var rfl) (ev_lenL (ev_var rfl)) (by omega) (by omega)) ?_) fun t h => h
    rintro _ _ rfl ⟨v, rfl, hv⟩
    have hv : v < ds.length := by omega
    exact fun M a b H T ha hb Q q => rd_ixL (d := ds[v]) (at_n (List.getElem?_eq_getElem hv)) M a b H T ha hb Q fun w u H' e => q w u H' ⟨_, List.getElem_mem hv, e⟩
  · obtain ⟨b, c, x, us, ts, Φ, rfl, Bg, ⟨z, rfl, h1, h2, rfl⟩, T, hh, q⟩ := h
    refine ⟨_, (pss_cons (ps_ret (pe_ix ix_str (pv 1) (pe_c c__law_take hr (by decide) (by rfl) (pa_cons (pv 0) (pa_cons (pe_callB call_len_str (by rfl) B.m_len PySem.boot_len (pa_cons (pv 1) pa_nil)) pa_nil))) (fun _ _ => rfl)))
      pss_nil), ?_⟩
    refine start_B (N := N__law_some) Bg T hh ?_
    have R := ret_B q
    refine tr_retR R (Ψ := fun t => ∃ c ∈ z.cps.toList, t = .im (.str (ch c))) (ev_op (Φ1 := dt (.im (.str z))) (ev_var rfl) (ev_take (n := z.length) rfl (ev_var rfl) (ev_cbD (ea_cons (ev_var rfl) ea_nil) (rc_lenS h2)) (by omega) (by omega)) ?_) fun t h => h
    rintro _ _ rfl ⟨v, rfl, hv⟩
    have hv : v < z.cps.toList.length := by
      rw [str_len]
      omega
    exact fun M a b H T ha hb Q q => rd_ixS h2 (at_n (List.getElem?_eq_getElem hv)) M a b H T ha hb Q fun w u H' e => q w u H' ⟨_, List.getElem_mem hv, e⟩
abbrev s__law_mixed : Stmt := topS 36
abbrev N__law_mixed : List Str := ["_law_bag_here", "_law_things", "_law_found", "_law_thing"]
theorem sc__law_mixed : FnScope N__law_mixed ["_law_bag_here", "_law_things"] (defScope s__law_mixed) := ⟨rfl, rfl, rfl, by decide +kernel, rfl, by decide +kernel, by decide +kernel⟩
theorem bd__law_mixed (B : Bl mg) (c__law_take : Cal P w K mg base 1 "_law_take" sp__law_take []) : Bod P w K mg base N__law_mixed "_law_mixed" s__law_mixed 1 sp__law_mixed := fun f cdv A outer s H vs Q E hr h => by
  have hu := hu_of hr
  obtain ⟨b, c, x, us, ts, Φ, rfl, Bg, ⟨ds, rfl, h1, rfl⟩, T, hh, q⟩ := h
  refine ⟨_, (pss_cons (ps_set (i := 2) sc__law_mixed.nd rfl (Or.inl rfl) (pe_lst pa_nil))
    (pss_cons (ps_for PassesOwn.never rfl (pi_list (pv 1)) (pg_name (i := 3) sc__law_mixed.nd rfl (Or.inl rfl))
      (pss_cons (ps_expr (pe_bm PySem.F.plainAttrs_list PySem.F.slot_list_insert PySem.F.type_list_insert mt_insert (pv 2) (pa_cons (pe_c c__law_take hr (by decide) (by rfl) (pa_cons (pv 0) (pa_cons (pe_op op_add (pe_callB call_len_seq (by rfl) B.m_len PySem.boot_len (pa_cons (pv 2) pa_nil)) pe_int) pa_nil))) (pa_cons (pv 3) pa_nil))))
      pss_nil))
    (pss_cons (ps_ret (pv 2))
    pss_nil))), ?_⟩
  refine start_B (N := N__law_mixed) Bg T hh ?_
  have R := ret_B q
  refine tr_asgM (by show 2 < 4; decide) em_lst0 fun p m e => ?_
  subst e
  refine tr_for (src_list (ds := ds) (ev_var rfl)).p (fun _ i s => ∃ (es : List PyData) (t3 : Ty), es.Perm (ds.take i) ∧ s = ⟨[.rf b, .im (.list ds), .rf p, t3], [(p, .lst es)], some (b, c)⟩) (fun _ _ _ => ⟨[], .any, by rw [List.take_zero], rfl⟩) (fun _ _ _ ⟨_, _, _, e⟩ => by subst e; rfl) ?_ ?_
  · rintro n ty ⟨rfl, rfl⟩ H1 Bs i s hi ⟨es, t3, hp, rfl⟩
    have hd : ds[i]? = some ds[i] := List.getElem?_eq_getElem hi
    generalize ds[i] = d at hd
    have hg : ds.getD i .none = d := by
      rw [List.getD_eq_getElem?_getD, hd]
      rfl
    show ∃ ws s', Bd H1 x _ _ (Ty.im (ds.getD i .none)) ws s' ∧ _
    rw [hg]
    refine ⟨_, _, bd_name (by show 3 < 4; decide), ?_⟩
    have hl : es.length ≤ 1000 := by
      rw [hp.length_eq]
      exact Nat.le_trans (List.length_take_le' _ _) h1
    refine tr_ins (i := 2) rfl (by omega) (ev_take (n := es.length + 1) rfl (ev_var rfl) (ev_opD (ev_frzD (i := 2) rfl (ev_lenL (ds := es) (ev_var rfl)) (.int _)) ev_int rd_i0) (by omega) (by omega)) (ev_var (t := .im d) rfl) ?_
    rintro t ⟨v, rfl, hv⟩
    refine ⟨v, rfl, by omega, tr_next fun σ H S => ⟨_, ⟨_, _, ?_, rfl⟩, S⟩⟩
    rw [take_next hd]
    have e1 : (es.take v ++ [d] ++ es.drop v).Perm (d :: es) := by
      have := List.perm_middle (a := d) (l₁ := es.take v) (l₂ := es.drop v)
      rw [List.take_append_drop] at this
      rw [List.append_assoc]
      exact this
    exact (e1.trans (hp.cons d)).trans (List.perm_append_comm (l₁ := [d]))
  · rintro n ty ⟨rfl, rfl⟩ s ⟨es, t3, hp, rfl⟩
    rw [List.take_length] at hp
    exact tr_frz (i := 2) rfl (tr_retR R (ev_var (t := .im (.list es)) rfl) fun t e => ⟨es, hp, e⟩)
abbrev s__law_word : Stmt := topS 51
abbrev N__law_word : List Str := ["_law_bag_here", "_law_many", "_law_letters", "_law_turn"]
theorem sc__law_word : FnScope N__law_word ["_law_bag_here", "_law_many"] (defScope s__law_word) := ⟨rfl, rfl, rfl, by decide +kernel, rfl, by decide +kernel, by decide +kernel⟩
theorem bd__law_word (B : Bl mg) (c__law_some : Cal P w K mg base 2 "_law_some" sp__law_some []) (c__law_take : Cal P w K mg base 1 "_law_take" sp__law_take []) : Bod P w K mg base N__law_word "_law_word" s__law_word 2 sp__law_word := fun f cdv A outer s H vs Q E hr h => by
  have hu := hu_of hr
  obtain ⟨b, c, x, us, ts, Φ, rfl, Bg, ⟨n, rfl, h1, h2, rfl⟩, T, hh, q⟩ := h
  refine ⟨_, (pss_cons (ps_set (i := 2) sc__law_word.nd rfl (Or.inr rfl) pe_str)
    (pss_cons (ps_ret (pe_join pe_str (pe_lc (own := [("_law_turn", 3)]) (g := (gName 3)) (tt := tYes) (te := (tCall sp__law_some [] E0 (tCons (tVar 0) (tCons (tVar 2) tNil)))) rfl sc__law_word.nd (pi_range1 (by rfl) B.m_range (pa_cons (pe_op op_add pe_int (pe_c c__law_take hr (by decide) (by rfl) (pa_cons (pv 0) (pa_cons (pv 1) pa_nil)))) pa_nil)) (blkOk_by (own := [("_law_turn", 3)]) (N := N__law_word) (sc := defScope s__law_word) (by decide +kernel)) (fun _ _ _ _ _ => (pg_name (i := 3) sc__law_word.nd rfl (Or.inl rfl))) (fun _ _ _ _ _ => pts_nil) (fun _ _ _ _ _ => (pe_c c__law_some hr (by decide) (by rfl) (pa_cons (pv 0) (pa_cons (pv 2) pa_nil)))))))
    pss_nil)), ?_⟩
  refine start_B (N := N__law_word) Bg T hh ?_
  have R := ret_B q
  refine tr_asgD (by show 2 < 4; decide) (ev_str (n := abc)) ?_
  refine tr_retR R (Ψ := fun t => ∃ z : Str, t = .im (.str z) ∧ Lo z ∧ 1 ≤ z.length ∧ z.length ≤ n) (ev_join (a := "") ev_str (Ψ := fun t => ∃ cs : List Nat, t = .im (.list ((cs.map ch).map PyData.str)) ∧ 1 ≤ cs.length ∧ cs.length ≤ n ∧ ∀ c ∈ cs, 97 ≤ c ∧ c ≤ 122) (ev_lc (srcP_rng1 (Ψ := fun m ty => 1 ≤ m ∧ m ≤ n) (ea_consP (Φ := fun t => ∃ v : Nat, t = .im (.int v) ∧ 1 ≤ v ∧ v ≤ n) ?_ ea_nil) ?_)
    (fun _ i acc => ∃ cs : List Nat, acc = (cs.map ch).map PyData.str ∧ cs.length = i ∧ ∀ c ∈ cs, 97 ≤ c ∧ c ≤ 122) (fun m ty h => ⟨by omega, [], rfl, rfl, fun _ m => (nomatch m)⟩) ?_ ?_) ?_) fun t h => h
  · refine ev_op (Φ1 := dt (.im (.int 1))) ev_int (ev_take (n := n) rfl (ev_var rfl) (ev_var rfl) (by omega) (by omega)) ?_
    rintro _ _ rfl ⟨v, rfl, hv⟩
    exact fun M a b H T ha hb Q q => rd_i0 M a b H T ha hb Q fun w u H' e => q w u H' ⟨v + 1, by rw [e]; congr 2; omega, by omega, by omega⟩
  · rintro ts ⟨t, r, rfl, ⟨v, rfl, hv1, hv2⟩, rfl⟩
    exact ⟨v, rfl, by omega, by omega, by omega, by omega⟩
  · rintro m ty ⟨hm1, hm2⟩ H1 Bs D i acc hi ⟨cs, rfl, hl, hc⟩
    refine ⟨_, _, bd_name (by show 3 < 4; decide), by decide, rfl, rfl, fun b => b = true, et_yes, (fun e => by cases e), fun _ => ?_⟩
    refine ev_someS (z := abc) rfl (ev_var rfl) (ev_var rfl) (by decide +kernel) (by decide +kernel) fun e he => ⟨_, rfl, cs ++ [e], ?_, ?_, fun d hd => ?_⟩
    · rw [List.map_append, List.map_append]
      rfl
    · rw [List.length_append, List.length_singleton, hl]
    · rcases List.mem_append.mp hd with m | m
      · exact hc d m
      · rw [List.mem_singleton.mp m]
        exact abc_lo e he
  · rintro m ty ⟨hm1, hm2⟩ acc ⟨cs, rfl, hl, hc⟩
    exact ⟨cs, rfl, by omega, by omega, hc⟩
  · rintro t ⟨cs, rfl, hl1, hl2, hc⟩
    refine ⟨cs.map ch, rfl, ?_, ⟨cs.toArray⟩, by rw [join_ch], fun d hd => hc d (by simpa using hd), ?_, ?_⟩
    · rw [sum_ch, List.length_map]
      show cs.length + cs.length * 0 ≤ _
      omega
    · show 1 ≤ cs.toArray.size
      rw [List.size_toArray]
      exact hl1
    · show cs.toArray.size ≤ n
      rw [List.size_toArray]
      exact hl2
end
end Sx
set_option Elab.async false
set_option linter.all false
set_option maxRecDepth 100000
set_option maxHeartbeats 4000000
namespace Sx
open PySem PySem.Spec PyProof.Rows L2
open C8 (Cal pe_c)
section
variable {H0 : Hp} {x : List Addr} {ss : SS} {te ta tb : TE} {ta2 : TA} {K : PySem.W.Frag}
/-- one letter by its number -/
theorem ev_letter {P : Int → Prop} (h : EvD H0 x ss te (.im (.str abc))) (hi : EvI H0 x ss ta P) (hp : ∀ n, P n → 0 ≤ n ∧ n < 26) : Ev H0 x ss (tOp rIxS te ta) (fun t => ∃ n : Nat, t = .im (.str (ch (97 + n))) ∧ n < 26 ∧ P n) :=
  ev_op h hi fun t u e ⟨n, e2, p⟩ => by
    subst e e2
    obtain ⟨h0, h1⟩ := hp n p
    have hn : ((n.toNat : Nat) : Int) = n := Int.toNat_of_nonneg h0
    refine fun M a b H T ha hb Q q => rd_ixS (z := abc) (by decide +kernel) (by rw [← hn]; exact abc_at n.toNat (by omega)) M a b H T ha hb Q fun w v H' e => q w v H' ⟨n.toNat, e, by omega, by rw [hn]; exact p⟩
theorem ev_addT {Φ : Ty → Prop} {P1 P2 : Str → Prop} (h1 : Ev H0 x ss ta (fun t => ∃ z, t = .im (.str z) ∧ P1 z)) (h2 : Ev H0 x ss tb (fun t => ∃ z, t = .im (.str z) ∧ P2 z)) (k : ∀ y z, P1 y → P2 z → y.length + z.length ≤ 100000 ∧ Φ (.im (.str (y ++ z)))) : Ev H0 x ss (tOp rAddT ta tb) Φ :=
  ev_op h1 h2 fun t u ⟨y, e1, p1⟩ ⟨z, e2, p2⟩ => by
    subst e1 e2
    exact fun M a b H T ha hb Q q => rd_addT (k y z p1 p2).1 M a b H T ha hb Q fun w v H' e => q w v H' (by rw [e]; exact (k y z p1 p2).2)
/-- a word's end -/
theorem ev_slP {Φ : Ty → Prop} {P Pz : Str → Prop} (h : Ev H0 x ss te (fun t => ∃ z, t = .im (.str z) ∧ Pz z)) (k : ∀ z, Pz z → z.length ≤ 100000 ∧ P (cutS z (some 1) none)) : Ev H0 x ss (tSl rSlS te (tPart (tC (.int 1))) tNoPart) (fun t => ∃ z, t = .im (.str z) ∧ P z) := fun σ H S Q q =>
  h σ H S _ fun t v H1 ⟨z, e, p⟩ S1 e1 r => by
    subst e
    cases r
    exact ⟨1, rfl, z, rfl, Nat.le_trans (k z p).1 (by decide), q _ _ H1 ⟨_, rfl, (k z p).2⟩ S1 e1 (.str _)⟩
theorem src_rngN {Ψ : Nat → (Nat → Ty) → Prop} {n : Nat} (h : EaD H0 x ss ta2 [.im (.int n)]) (hn : n ≤ 1000000) (k : Ψ n (fun i => .im (.int (i : Nat)))) : SrcP H0 x ss (iRng1 ta2) Ψ := fun σ H S R r =>
  src_rng1 h (by omega) (by omega) σ H S R fun J H' Y S' e w y => r n (fun i => .im (.int (i : Nat))) J H' Y k S' e (by rw [Int.toNat_natCast] at w; exact w) (by rw [Int.toNat_natCast] at y; exact y)
end
abbrev dt2 (t : List Ty) : List Ty → Prop := fun u => u = t
theorem ch_len (c : Nat) : (ch c).length = 1 := rfl
theorem cps_app (y z : Str) : (y ++ z).cps.toList = y.cps.toList ++ z.cps.toList := Array.toList_append
theorem cut_len (z : Str) (lo hi : Option Int) : (cutS z lo hi).length ≤ z.length := by
  rw [← str_len, ← str_len]
  unfold cutS
  rw [List.toList_toArray, List.length_take, List.length_drop]
  omega
theorem cut_pre {z : Str} {n : Nat} (h : n ≤ z.length) : (cutS z none (some n)).cps.toList = z.cps.toList.take n := by
  unfold cutS
  rw [List.toList_toArray, HT.sIx_none, HT.sIx_nat, List.drop_zero, Nat.sub_zero, Nat.min_eq_left h]
theorem rep_len (z : Str) (n : Nat) : (repT z n).length = n * z.length := by
  show (((List.replicate ((n : Int)).toNat z.cps.toList).flatten).toArray).size = _
  rw [List.size_toArray, List.length_flatten, List.map_replicate, List.sum_replicate_nat, Int.toNat_natCast, str_len]
section
variable {P : Program} {w : World} {K : PySem.W.Frag} {mg : Str → Option Value} {base : Heap}
abbrev s__law_names : Stmt := topS 38
abbrev N__law_names : List Str := ["_law_bag_here", "_law_many", "_law_letters", "_law_way", "_law_found", "_law_first", "_law_stem", "_law_place", "_law_second", "_law_one", "_law_other", "_law_step", "_law_codes", "_law_at", "_law_code"]
theorem sc__law_names : FnScope N__law_names ["_law_bag_here", "_law_many"] (defScope s__law_names) := ⟨rfl, rfl, rfl, by decide +kernel, rfl, by decide +kernel, by decide +kernel⟩
theorem bd__law_names (B : Bl mg) (c__law_take : Cal P w K mg base 1 "_law_take" sp__law_take []) (c__law_mixed : Cal P w K mg base 2 "_law_mixed" sp__law_mixed []) (c__law_word : Cal P w K mg base 3 "_law_word" sp__law_word []) (c__law_some : Cal P w K mg base 2 "_law_some" sp__law_some []) : Bod P w K mg base N__law_names "_law_names" s__law_names 3 sp__law_names := fun f cdv A outer s H vs Q E hr h => by
  have hu := hu_of hr
  obtain ⟨b, c, x, us, ts, Φ, rfl, Bg, ⟨n, rfl, h1, rfl⟩, T, hh, q⟩ := h
  refine ⟨_, (pss_cons (ps_asg (pe_tup (pa_cons pe_str (pa_cons (pe_c c__law_take hr (by decide) (by rfl) (pa_cons (pv 0) (pa_cons pe_int pa_nil))) (pa_cons (pe_lst pa_nil) pa_nil)))) (pg_tup rfl (pgs_cons (pg_name (i := 2) sc__law_names.nd rfl (Or.inr rfl)) (pgs_cons (pg_name (i := 3) sc__law_names.nd rfl (Or.inl rfl)) (pgs_cons (pg_name (i := 4) sc__law_names.nd rfl (Or.inl rfl)) pgs_nil)))))
    (pss_cons (ps_set (i := 5) sc__law_names.nd rfl (Or.inr rfl) (pe_c c__law_take hr (by decide) (by rfl) (pa_cons (pv 0) (pa_cons pe_int pa_nil))))
    (pss_cons (ps_if (pt_cmpR (op_eqD hr.units) (pv 3) pe_int (nomark _))
      (pss_cons (ps_setLc (i := 4) (own := [("_law_at", 13)]) (g := (gName 13)) (tt := tYes) (te := (tOp rIxS (tVar 2) (tOp (rI (fun _ j => 0 < j) fun i j => .int (i % j)) (tCB rcInt (tCons (tOp (rI0 fun i j => .int (i + j)) (tVar 5) (tVar 13)) tNil)) (tC (.int 26))))) rfl sc__law_names.nd rfl rfl (sw_true rfl rfl rfl (by decide +kernel)) (pi_range1 (by rfl) B.m_range (pa_cons (pv 1) pa_nil)) (blkOk_by (own := [("_law_at", 13)]) (N := N__law_names) (sc := defScope s__law_names) (by decide +kernel)) (fun _ _ _ _ _ => (pg_name (i := 13) sc__law_names.nd rfl (Or.inl rfl))) (fun _ _ _ _ _ => pts_nil) (fun _ _ _ _ _ => (pe_ix ix_str (pv 2) (pe_op op_mod (pe_callTy call_int1 (by rfl) B.m_int (by decide +kernel) (pa_cons (pe_op op_add (pv 5) (pv 13)) pa_nil)) pe_int) (fun _ _ => rfl))))
      pss_nil)
      (pss_cons (ps_if (pt_cmpR (op_eqD hr.units) (pv 3) pe_int (nomark _))
        (pss_cons (ps_set (i := 6) sc__law_names.nd rfl (Or.inr rfl) (pe_c c__law_word hr (by decide) (by rfl) (pa_cons (pv 0) (pa_cons pe_int pa_nil))))
        (pss_cons (ps_set (i := 7) sc__law_names.nd rfl (Or.inr rfl) (pe_c c__law_take hr (by decide) (by rfl) (pa_cons (pv 0) (pa_cons (pe_op op_add (pe_callB call_len_str (by rfl) B.m_len PySem.boot_len (pa_cons (pv 6) pa_nil)) pe_int) pa_nil))))
        (pss_cons (ps_setLc (i := 4) (own := [("_law_at", 13)]) (g := (gName 13)) (tt := tYes) (te := (tOp rAddT (tOp rAddT (tSl rSlS (tVar 6) tNoPart (tPart (tVar 7))) (tOp rIxS (tVar 2) (tOp (rI (fun _ j => 0 < j) fun i j => .int (i % j)) (tCB rcInt (tCons (tOp (rI0 fun i j => .int (i + j)) (tVar 5) (tVar 13)) tNil)) (tC (.int 26))))) (tSl rSlS (tVar 6) (tPart (tVar 7)) tNoPart))) rfl sc__law_names.nd rfl rfl (sw_true rfl rfl rfl (by decide +kernel)) (pi_range1 (by rfl) B.m_range (pa_cons (pv 1) pa_nil)) (blkOk_by (own := [("_law_at", 13)]) (N := N__law_names) (sc := defScope s__law_names) (by decide +kernel)) (fun _ _ _ _ _ => (pg_name (i := 13) sc__law_names.nd rfl (Or.inl rfl))) (fun _ _ _ _ _ => pts_nil) (fun _ _ _ _ _ => (pe_op op_addT (pe_op op_addT (pe_slice sl_str (pv 6) po_none (po_some (pv 7))) (pe_ix ix_str (pv 2) (pe_op op_mod (pe_callTy call_int1 (by rfl) B.m_int (by decide +kernel) (pa_cons (pe_op op_add (pv 5) (pv 13)) pa_nil)) pe_int) (fun _ _ => rfl))) (pe_slice sl_str (pv 6) (po_some (pv 7)) po_none))))
        pss_nil)))
        (pss_cons (ps_if (pt_cmpR (op_eqD hr.units) (pv 3) pe_int (nomark _))
          (pss_cons (ps_set (i := 8) sc__law_names.nd rfl (Or.inl rfl) (pe_ix ix_str (pv 2) (pe_op op_mod (pe_callTy call_int1 (by rfl) B.m_int (by decide +kernel) (pa_cons (pe_op op_add (pe_op op_add (pv 5) pe_int) (pe_c c__law_take hr (by decide) (by rfl) (pa_cons (pv 0) (pa_cons pe_int pa_nil)))) pa_nil)) pe_int) (fun _ _ => rfl)))
          (pss_cons (ps_asg (pe_tup (pa_cons (pe_op op_addT (pe_ix ix_str (pv 2) (pv 5) (fun _ _ => rfl)) pe_str) (pa_cons (pe_op op_addT (pv 8) (pe_op op_repS (pe_c c__law_word hr (by decide) (by rfl) (pa_cons (pv 0) (pa_cons pe_int pa_nil))) pe_int)) pa_nil))) (pg_tup rfl (pgs_cons (pg_name (i := 9) sc__law_names.nd rfl (Or.inr rfl)) (pgs_cons (pg_name (i := 10) sc__law_names.nd rfl (Or.inr rfl)) pgs_nil))))
          (pss_cons (ps_set (i := 4) sc__law_names.nd rfl (Or.inl rfl) (pe_op op_cat (pe_lc (own := [("_law_at", 13)]) (g := (gName 13)) (tt := tYes) (te := (tSl rSlS (tVar 9) tNoPart (tPart (tOp (rI0 fun i j => .int (i + j)) (tVar 13) (tC (.int 1)))))) rfl sc__law_names.nd (pi_range1 (by rfl) B.m_range (pa_cons (pe_callB (call_min2 rfl) (by rfl) B.m_min (by decide +kernel) (pa_cons pe_int (pa_cons (pv 1) pa_nil))) pa_nil)) (blkOk_by (own := [("_law_at", 13)]) (N := N__law_names) (sc := defScope s__law_names) (by decide +kernel)) (fun _ _ _ _ _ => (pg_name (i := 13) sc__law_names.nd rfl (Or.inl rfl))) (fun _ _ _ _ _ => pts_nil) (fun _ _ _ _ _ => (pe_slice sl_str (pv 9) po_none (po_some (pe_op op_add (pv 13) pe_int))))) (pe_lc (own := [("_law_at", 13)]) (g := (gName 13)) (tt := tYes) (te := (tSl rSlS (tVar 10) tNoPart (tPart (tOp (rI0 fun i j => .int (i + j)) (tVar 13) (tC (.int 1)))))) rfl sc__law_names.nd (pi_range1 (by rfl) B.m_range (pa_cons (pe_op op_sub (pv 1) pe_int) pa_nil)) (blkOk_by (own := [("_law_at", 13)]) (N := N__law_names) (sc := defScope s__law_names) (by decide +kernel)) (fun _ _ _ _ _ => (pg_name (i := 13) sc__law_names.nd rfl (Or.inl rfl))) (fun _ _ _ _ _ => pts_nil) (fun _ _ _ _ _ => (pe_slice sl_str (pv 10) po_none (po_some (pe_op op_add (pv 13) pe_int)))))))
          pss_nil)))
          (pss_cons (ps_set (i := 11) sc__law_names.nd rfl (Or.inr rfl) (pe_c c__law_some hr (by decide) (by rfl) (pa_cons (pv 0) (pa_cons (pe_lst (pa_cons pe_int (pa_cons pe_int (pa_cons pe_int (pa_cons pe_int (pa_cons pe_int pa_nil)))))) pa_nil))))
          (pss_cons (ps_setLc (i := 12) (own := [("_law_at", 13)]) (g := (gName 13)) (tt := tYes) (te := (tOp (rI (fun _ j => 0 < j) fun i j => .int (i % j)) (tCB rcInt (tCons (tOp (rI0 fun i j => .int (i + j)) (tOp (rI CMul fun i j => .int (i * j)) (tVar 5) (tC (.int 26))) (tOp (rI CMul fun i j => .int (i * j)) (tVar 13) (tVar 11))) tNil)) (tC (.int 676)))) rfl sc__law_names.nd rfl rfl (sw_true rfl rfl rfl (by decide +kernel)) (pi_range1 (by rfl) B.m_range (pa_cons (pv 1) pa_nil)) (blkOk_by (own := [("_law_at", 13)]) (N := N__law_names) (sc := defScope s__law_names) (by decide +kernel)) (fun _ _ _ _ _ => (pg_name (i := 13) sc__law_names.nd rfl (Or.inl rfl))) (fun _ _ _ _ _ => pts_nil) (fun _ _ _ _ _ => (pe_op op_mod (pe_callTy call_int1 (by rfl) B.m_int (by decide +kernel) (pa_cons (pe_op op_add (pe_op op_mul (pv 5) pe_int) (pe_op op_mul (pv 13) (pv 11))) pa_nil)) pe_int)))
          (pss_cons (ps_setLc (i := 4) (own := [("_law_code", 14)]) (g := (gName 14)) (tt := tYes) (te := (tOp rAddT (tOp rAddT (tOp rIxS (tVar 2) (tOp (rI CDiv fun i j => .int (i / j)) (tVar 14) (tC (.int 26)))) (tOp rIxS (tVar 2) (tOp (rI (fun _ j => 0 < j) fun i j => .int (i % j)) (tCB rcInt (tCons (tVar 14) tNil)) (tC (.int 26))))) (tSl rSlS (tCall sp__law_word [] E0 (tCons (tVar 0) (tCons (tC (.int 11)) tNil))) (tPart (tC (.int 1))) tNoPart))) rfl sc__law_names.nd rfl rfl (sw_true rfl rfl rfl (by decide +kernel)) (pi_list (pv 12)) (blkOk_by (own := [("_law_code", 14)]) (N := N__law_names) (sc := defScope s__law_names) (by decide +kernel)) (fun _ _ _ _ _ => (pg_name (i := 14) sc__law_names.nd rfl (Or.inl rfl))) (fun _ _ _ _ _ => pts_nil) (fun _ _ _ _ _ => (pe_op op_addT (pe_op op_addT (pe_ix ix_str (pv 2) (pe_op op_fdiv (pv 14) pe_int) (fun _ _ => rfl)) (pe_ix ix_str (pv 2) (pe_op op_mod (pe_callTy call_int1 (by rfl) B.m_int (by decide +kernel) (pa_cons (pv 14) pa_nil)) pe_int) (fun _ _ => rfl))) (pe_slice sl_str (pe_c c__law_word hr (by decide) (by rfl) (pa_cons (pv 0) (pa_cons pe_int pa_nil))) (po_some pe_int) po_none))))
          pss_nil))))
        pss_nil))
      pss_nil))
    (pss_cons (ps_ret (pe_c c__law_mixed hr (by decide) (by rfl) (pa_cons (pv 0) (pa_cons (pv 4) pa_nil))))
    pss_nil)))), ?_⟩
  refine start_B (N := N__law_names) Bg T hh ?_
  have R := ret_B q
  refine tr_asgT (Φ := fun t => ∃ v : Nat, t = .im (.tuple [.str abc, .int v, .list []]) ∧ v < 4) (ev_tupP (Ψ := fun ts => ∃ v : Nat, ts = [.im (.str abc), .im (.int v), .im (.list [])] ∧ v < 4) ((ea_consP (Φ := dt (.im (.str abc))) ev_str (ea_consP (ev_take (n := 4) rfl (ev_var rfl) ev_int (by omega) (by omega)) (ea_consP (Φ := dt (.im (.list []))) ev_lst0 ea_nil))).imp ?_) ?_) ?_
  · rintro ts ⟨t1, r1, rfl, rfl, t2, r2, rfl, ⟨v, rfl, hv⟩, t3, r3, rfl, rfl, rfl⟩
    exact ⟨v, rfl, by omega⟩
  · rintro ts ⟨v, rfl, hv⟩
    exact ⟨[.str abc, .int v, .list []], rfl, by show 3 ≤ 100000; decide, v, rfl, hv⟩
  rintro t ⟨way, rfl, hway⟩
  refine ⟨_, _, bd_tup (bds_cons (bd_name (by show 2 < 15; decide)) (bds_cons (bd_name (by show 3 < 15; decide)) (bds_cons (bd_name (by show 4 < 15; decide)) bds_nil))), ?_⟩
  refine tr_asg (by show 5 < 15; decide) (ev_take (n := 26) rfl (ev_var rfl) ev_int (by omega) (by omega)) ?_
  rintro t ⟨fst, rfl, hf⟩
  have hf : fst < 26 := by omega
  -- the letter at a place
  refine tr_ifJP (fun s => ∃ (ns : List Nm) (t6 t7 t8 t9 t10 t11 t12 t13 t14 : Ty), ns.Nodup ∧ ns.length = n ∧ s = ⟨[.rf b, .im (.int n), .im (.str abc), .im (.int way), .im (.list (ns.map nD)), .im (.int fst), t6, t7, t8, t9, t10, t11, t12, t13, t14], [], some (b, c)⟩)
    (Ψ := fun k => k = decide ((way : Int) = 0)) (etI_eq (evI_var rfl) evI_c fun i j hi hj => by rw [hi, hj]) (fun kk e => ?_) (fun kk e => ?_) ?_
  · -- letters in their order
    refine tr_asg (by show 4 < 15; decide) (ev_lcN (n := n) (h := fun i => .int (i : Nat)) (Gd := fun i z => z = ch (97 + (fst + i) % 26)) (src_rngN (n := n) (ea_cons (ev_var rfl) ea_nil) (by omega) ⟨rfl, fun _ _ => rfl⟩) (by omega) fun H1 Bs D acc i hi => ⟨_, _, bd_name (by show 13 < 15; decide), by decide, rfl, rfl, ?_⟩) ?_
    · refine (ev_letter (P := fun m => m = ((fst + i) % 26 : Nat)) (ev_var rfl) (evI_op (evI_int (evI_op0 (P := fun m => m = fst + i) (evI_var rfl) (evI_var rfl) fun u v hu hv => by rw [hu, hv])) evI_c fun u v hu hv => ?_) fun m hm => by omega).imp ?_
      · subst hu hv
        exact ⟨by omega, by omega⟩
      · rintro t ⟨m, rfl, hm, he⟩
        exact ⟨_, rfl, by rw [show m = (fst + i) % 26 by omega]⟩
    · rintro t ⟨zs, rfl, hzl, hz⟩
      obtain ⟨ns, a1, a2, a3⟩ := to_names (n := n) (fun j z hj hg => by
        subst hg
        exact ⟨Lo.ch (by omega), by rw [ch_len]; decide⟩) (fun i j z hi hj h1 h2 => by
        rw [h1] at h2
        have h3 : #[97 + (fst + i) % 26] = #[97 + (fst + j) % 26] := congrArg Str.cps h2
        have h4 : 97 + (fst + i) % 26 = 97 + (fst + j) % 26 := by simpa using h3
        omega) hzl hz
      rw [a3]
      exact kk _ ⟨ns, _, _, _, _, _, _, _, _, _, a1, a2, rfl⟩
  · refine tr_if (Ψ := fun k => k = decide ((way : Int) = 1)) (etI_eq (evI_var rfl) evI_c fun i j hi hj => by rw [hi, hj]) (fun e1 => ?_) (fun e1 => ?_)
    · -- a letter within a word
      refine tr_asg (by show 6 < 15; decide) (ev_drawD rfl (ev_var rfl) (ea_cons ev_int ea_nil) ⟨11, rfl, by decide, by decide, rfl⟩) ?_
      rintro t ⟨st, rfl, hlo, hl1, hl2⟩
      refine tr_asg (by show 7 < 15; decide) (ev_take (n := st.length + 1) rfl (ev_var rfl) (ev_opD (ev_cbD (ea_cons (ev_var rfl) ea_nil) (rc_lenS (by omega))) ev_int rd_i0) (by omega) (by omega)) ?_
      rintro t ⟨v, rfl, hv⟩
      refine tr_asg (by show 4 < 15; decide) (ev_lcN (n := n) (h := fun i => .int (i : Nat)) (Gd := fun i z => z = (cutS st none (some (v : Int)) ++ ch (97 + (fst + i) % 26)) ++ cutS st (some (v : Int)) none) (src_rngN (n := n) (ea_cons (ev_var rfl) ea_nil) (by omega) ⟨rfl, fun _ _ => rfl⟩) (by omega) fun H1 Bs D acc i hi => ⟨_, _, bd_name (by show 13 < 15; decide), by decide, rfl, rfl, ?_⟩) ?_
      · refine ev_addT (P1 := fun z => z = cutS st none (some (v : Int)) ++ ch (97 + (fst + i) % 26)) (P2 := fun z => z = cutS st (some (v : Int)) none) (ev_addT (P1 := fun z => z = cutS st none (some (v : Int))) (P2 := fun z => z = ch (97 + (fst + i) % 26)) ?_ ?_ ?_) ?_ ?_
        · exact (ev_sl (hi := some (v : Int)) (ev_var (t := .im (.str st)) rfl) eo_no (eo_at (ev_var rfl)) (rs_str (by omega))).imp fun t e => ⟨_, e, rfl⟩
        · refine (ev_letter (P := fun m => m = ((fst + i) % 26 : Nat)) (ev_var rfl) (evI_op (evI_int (evI_op0 (P := fun m => m = fst + i) (evI_var rfl) (evI_var rfl) fun u v hu hv => by rw [hu, hv])) evI_c fun u v hu hv => ?_) fun m hm => by omega).imp ?_
          · subst hu hv
            exact ⟨by omega, by omega⟩
          · rintro t ⟨m, rfl, hm, he⟩
            exact ⟨_, rfl, by rw [show m = (fst + i) % 26 by omega]⟩
        · rintro y z rfl rfl
          have := cut_len st none (some (v : Int))
          exact ⟨by rw [ch_len]; omega, _, rfl, rfl⟩
        · exact (ev_sl (lo := some (v : Int)) (ev_var (t := .im (.str st)) rfl) (eo_at (ev_var rfl)) eo_no (rs_str (by omega))).imp fun t e => ⟨_, e, rfl⟩
        · rintro y z rfl rfl
          have := cut_len st none (some (v : Int))
          have := cut_len st (some (v : Int)) none
          exact ⟨by rw [len_app, ch_len]; omega, _, rfl, rfl⟩
      · rintro t ⟨zs, rfl, hzl, hz⟩
        obtain ⟨ns, a1, a2, a3⟩ := to_names (n := n) (fun j z hj hg => by
          subst hg
          have := cut_len st none (some (v : Int))
          have := cut_len st (some (v : Int)) none
          exact ⟨((hlo.cut _ _).app (Lo.ch (by omega))).app (hlo.cut _ _), by rw [len_app, len_app, ch_len]; omega⟩) (fun i j z hi hj h1 h2 => by
          rw [h1] at h2
          have h3 := congrArg (fun z : Str => z.cps.toList) h2
          simp only [cps_app] at h3
          have h4 := List.append_cancel_right h3
          have h5 := List.append_cancel_left h4
          have h6 : [97 + (fst + i) % 26] = [97 + (fst + j) % 26] := h5
          have h7 : 97 + (fst + i) % 26 = 97 + (fst + j) % 26 := by simpa using h6
          omega) hzl hz
        rw [a3]
        exact kk _ ⟨ns, _, _, _, _, _, _, _, _, _, a1, a2, rfl⟩
    · refine tr_if (Ψ := fun k => k = decide ((way : Int) = 2)) (etI_eq (evI_var rfl) evI_c fun i j hi hj => by rw [hi, hj]) (fun e2 => ?_) (fun e2 => ?_)
      · -- beginnings of a word
        refine tr_asg (by show 8 < 15; decide) ((ev_letter (P := fun m => 0 ≤ m ∧ m < 26) (ev_var rfl) (evI_op (evI_int (evI_op0 (P := fun m => True) (evI_op0 (P := fun m => True) (evI_var rfl) evI_c fun u v hu hv => trivial) ((ev_take (n := 25) rfl (ev_var rfl) ev_int (by omega) (by omega)).imp fun t ⟨v, e, hv⟩ => (⟨v, e, trivial⟩ : ∃ n : Int, t = .im (.int n) ∧ True)) fun u v hu hv => trivial)) evI_c fun u v hu hv => ?_) fun m hm => hm).imp (Φ := fun t => ∃ m : Nat, t = .im (.str (ch (97 + m))) ∧ m < 26) ?_) ?_
        · subst hv
          exact ⟨by omega, Int.emod_nonneg u (by omega), Int.emod_lt_of_pos u (by omega)⟩
        · rintro t ⟨m, rfl, hm, _⟩
          exact ⟨m, rfl, hm⟩
        rintro t ⟨m8, rfl, hm8⟩
        refine tr_asgT (Φ := fun t => ∃ y : Str, t = .im (.tuple [.str (ch (97 + fst) ++ "abcdefghijk"), .str y])) (ev_tupP (Ψ := fun ts => ∃ y : Str, ts = [.im (.str (ch (97 + fst) ++ "abcdefghijk")), .im (.str y)]) ((ea_consP (Φ := dt (.im (.str (ch (97 + fst) ++ "abcdefghijk")))) ?_ (ea_consP (Φ := fun t => ∃ y : Str, t = .im (.str y)) ?_ ea_nil)).imp ?_) ?_) ?_
        · refine ev_addT (P1 := fun z => z = ch (97 + fst)) (P2 := fun z => z = "abcdefghijk") ?_ (ev_str.imp fun t e => ⟨_, e, rfl⟩) ?_
          · refine (ev_letter (P := fun m => m = fst) (ev_var rfl) (evI_var rfl) fun m hm => by omega).imp ?_
            rintro t ⟨m, rfl, hm, he⟩
            exact ⟨_, rfl, by rw [show m = fst by omega]⟩
          · rintro y z rfl rfl
            exact ⟨by rw [ch_len]; decide, rfl⟩
        · refine ev_addT (P1 := fun z => z = ch (97 + m8)) (P2 := fun z => z.length ≤ 1000) ((ev_var rfl).imp fun t e => ⟨_, e, rfl⟩) (ev_op (Φ1 := fun t => ∃ z : Str, t = .im (.str z) ∧ Lo z ∧ 1 ≤ z.length ∧ z.length ≤ 1) (Φ2 := dt (.im (.int 11))) (ev_drawD rfl (ev_var rfl) (ea_cons ev_int ea_nil) ⟨1, rfl, by decide, by decide, rfl⟩) ev_int ?_) ?_
          · rintro _ _ ⟨z, rfl, hlo, hl1, hl2⟩ rfl
            refine fun M a b H T ha hb Q q => rd_repS (by decide) (by decide) (by omega) M a b H T ha hb Q fun w v H' e => q w v H' ⟨_, e, ?_⟩
            have := rep_len z 11
            have e11 : ((11 : Nat) : Int) = 11 := rfl
            rw [e11] at this
            rw [this]
            omega
          · rintro y z rfl hz
            exact ⟨by rw [ch_len]; omega, _, rfl⟩
        · rintro ts ⟨t1, r1, rfl, rfl, t2, r2, rfl, ⟨y, rfl⟩, rfl⟩
          exact ⟨y, rfl⟩
        · rintro ts ⟨y, rfl⟩
          exact ⟨[.str (ch (97 + fst) ++ "abcdefghijk"), .str y], rfl, by show 2 ≤ 100000; decide, y, rfl⟩
        rintro t ⟨y, rfl⟩
        refine ⟨_, _, bd_tup (bds_cons (bd_name (by show 9 < 15; decide)) (bds_cons (bd_name (by show 10 < 15; decide)) bds_nil)), ?_⟩
        have hone : (ch (97 + fst) ++ "abcdefghijk").length = 12 := rfl
        have hlo : Lo (ch (97 + fst) ++ "abcdefghijk") := (Lo.ch (by omega)).app (by
          have : ∀ c ∈ ("abcdefghijk" : Str).cps.toList, 97 ≤ c ∧ c ≤ 122 := by decide +kernel
          exact this)
        generalize ch (97 + fst) ++ "abcdefghijk" = one at hone hlo ⊢
        refine tr_asg (Φ := fun t => ∃ zs : List Str, t = .im (.list (zs.map PyData.str)) ∧ zs.length = n ∧ ∀ (j : Nat) (z : Str), zs[j]? = some z → z = cutS one none (some ((j + 1 : Nat) : Int))) (by show 4 < 15; decide) (ev_op (ev_lcN (n := n) (h := fun i => .int (i : Nat)) (Gd := fun i z => z = cutS one none (some ((i + 1 : Nat) : Int))) (src_rngN (n := n) (ea_cons ((ev_cbD (ea_cons ev_int (ea_cons (ev_var rfl) ea_nil)) (rc_min2 (i := 12) (j := n))).eq (by rw [if_pos (by omega)])) ea_nil) (by omega) ⟨rfl, fun _ _ => rfl⟩) (by omega) fun H1 Bs D acc i hi => ⟨_, _, bd_name (by show 13 < 15; decide), by decide, rfl, rfl, ?_⟩)
          (ev_lcN (n := 0) (h := fun i => .int (i : Nat)) (Gd := fun i z => True) (srcP_rng1 (Φ := dt2 [.im (.int ((n : Int) - 12))]) (ea_cons (ev_opD (ev_var rfl) ev_int rd_i0) ea_nil) ?_) (by omega) fun H1 Bs D acc i hi => absurd hi (Nat.not_lt_zero _)) ?_) ?_
        · exact (ev_sl (hi := some ((i + 1 : Nat) : Int)) (ev_var (t := .im (.str one)) rfl) eo_no (eo_at ((ev_opD (ev_var rfl) ev_int rd_i0).eq (by congr 2))) (rs_str (by omega))).imp fun t e => ⟨_, e, rfl⟩
        · rintro ts rfl
          exact ⟨(n : Int) - 12, rfl, by omega, by omega, by omega, fun i hi => absurd hi (Nat.not_lt_zero _)⟩
        · rintro _ _ ⟨zs, rfl, hl, hz⟩ ⟨ys, rfl, hl2, _⟩
          have : ys = [] := List.length_eq_zero_iff.mp hl2
          subst this
          exact fun M a b H T ha hb Q q => rd_catL (by rw [List.length_map, List.length_map]; show zs.length + 0 ≤ 100000; omega) M a b H T ha hb Q fun w u H' e => q w u H' ⟨zs, by rw [e]; simp, hl, hz⟩
        · rintro t ⟨zs, rfl, hzl, hz⟩
          have hcl : ∀ j, j < n → (cutS one none (some ((j + 1 : Nat) : Int))).length = j + 1 := fun j hj => by
            rw [← str_len, cut_pre (by omega), List.length_take, str_len]
            omega
          obtain ⟨ns, a1, a2, a3⟩ := to_names (n := n) (Gd := fun j z => z = cutS one none (some ((j + 1 : Nat) : Int))) (fun j z hj hg => by
            subst hg
            exact ⟨hlo.cut _ _, by rw [hcl j hj]; omega⟩) (fun i j z hi hj h1 h2 => by
            have h3 := congrArg Str.length (h1.symm.trans h2)
            rw [hcl i hi, hcl j hj] at h3
            omega) hzl hz
          rw [a3]
          exact kk _ ⟨ns, _, _, _, _, _, _, _, _, _, a1, a2, rfl⟩
      · -- two letters by a code
        refine tr_asg (Φ := fun t => ∃ s : Nat, t = .im (.int s) ∧ (s = 1 ∨ s = 27 ∨ s = 101 ∨ s = 7 ∨ s = 675)) (by show 11 < 15; decide) (ev_someL (ds := [.int 1, .int 27, .int 101, .int 7, .int 675]) rfl (ev_var rfl) (ev_lst (ds := [.int 1, .int 27, .int 101, .int 7, .int 675]) (ea_cons ev_int (ea_cons ev_int (ea_cons ev_int (ea_cons ev_int (ea_cons ev_int ea_nil)))))) (by simp) (by decide) ?_) ?_
        · intro d hd
          simp only [List.mem_cons, List.not_mem_nil, or_false] at hd
          rcases hd with rfl | rfl | rfl | rfl | rfl
          · exact ⟨1, rfl, by simp⟩
          · exact ⟨27, rfl, by simp⟩
          · exact ⟨101, rfl, by simp⟩
          · exact ⟨7, rfl, by simp⟩
          · exact ⟨675, rfl, by simp⟩
        rintro t ⟨sp, rfl, hsp⟩
        refine tr_asg (Φ := fun t => t = .im (.list ((List.range n).map fun j => .int ((fst * 26 + j * sp) % 676 : Nat)))) (by show 12 < 15; decide) (ev_lc (src_rngN (Ψ := fun m ty => m = n ∧ ∀ i, ty i = .im (.int (i : Nat))) (n := n) (ea_cons (ev_var rfl) ea_nil) (by omega) ⟨rfl, fun _ => rfl⟩) (fun _ i acc => acc = (List.range i).map fun j => .int ((fst * 26 + j * sp) % 676 : Nat)) (fun m ty ⟨e, _⟩ => ⟨by omega, rfl⟩) ?_ ?_) ?_
        · rintro m ty ⟨rfl, hty⟩ H1 Bs D i acc hi rfl
          rw [hty i]
          refine ⟨_, _, bd_name (by show 13 < 15; decide), by decide, rfl, rfl, fun b => b = true, et_yes, (fun e => by cases e), fun _ => ?_⟩
          have hsp2 : sp ≤ 675 := by omega
          refine (evI_op (P := fun v => v = ((fst * 26 + i * sp) % 676 : Nat)) (evI_int (evI_op0 (P := fun v => v = (fst * 26 + i * sp : Nat)) (evI_op (P := fun v => v = (fst * 26 : Nat)) (evI_var rfl) evI_c fun u v hu hv => ⟨.inl (by omega), by rw [hu, hv]; omega⟩) (evI_op (P := fun v => v = (i * sp : Nat)) (evI_var rfl) (evI_var rfl) fun u v hu hv => ⟨.inl (by omega), by rw [hu, hv]; exact (Int.natCast_mul i sp).symm⟩) fun u v hu hv => by rw [hu, hv]; omega)) evI_c fun u v hu hv => ⟨by omega, by rw [hu, hv]; omega⟩).imp ?_
          rintro t ⟨v, rfl, rfl⟩
          refine ⟨_, rfl, ?_⟩
          rw [List.range_succ, List.map_append]
          rfl
        · rintro m ty ⟨rfl, hty⟩ acc rfl
          rfl
        rintro t rfl
        generalize hcode : (fun j => (fst * 26 + j * sp) % 676) = code
        have hcl : ∀ j, code j < 676 := fun j => by
          rw [← hcode]
          exact Nat.mod_lt _ (by decide)
        have hci : ∀ i j, i < n → j < n → code i = code j → i = j := fun i j hi hj e => by
          rw [← hcode] at e
          have e : (fst * 26 + i * sp) % 676 = (fst * 26 + j * sp) % 676 := e
          rcases hsp with rfl | rfl | rfl | rfl | rfl <;> omega
        have el : ((List.range n).map fun j => PyData.int (((fst * 26 + j * sp) % 676 : Nat) : Int)) = (List.range n).map fun j => PyData.int (code j : Nat) := by
          rw [← hcode]
        rw [el]
        refine tr_asg (by show 4 < 15; decide) (ev_lcN (n := n) (h := fun i => .int (code i : Nat)) (Gd := fun i z => ∃ r : Str, z = (ch (97 + code i / 26) ++ ch (97 + code i % 26)) ++ r ∧ Lo r ∧ r.length ≤ 11) (srcP_list (ev_var rfl) ?_) (by omega) fun H1 Bs D acc i hi => ⟨_, _, bd_name (by show 14 < 15; decide), by decide, rfl, rfl, ?_⟩) ?_
        · rintro t rfl
          refine ⟨_, rfl, by rw [List.length_map, List.length_range], fun i hi => congrArg Ty.im ?_⟩
          rw [List.getD_eq_getElem?_getD, List.getElem?_map, List.getElem?_range hi]
          rfl
        · have hc := hcl i
          refine ev_addT (P1 := fun z => z = ch (97 + code i / 26) ++ ch (97 + code i % 26)) (P2 := fun r => Lo r ∧ r.length ≤ 11) (ev_addT (P1 := fun z => z = ch (97 + code i / 26)) (P2 := fun z => z = ch (97 + code i % 26)) ?_ ?_ ?_) ?_ ?_
          · refine (ev_letter (P := fun m => m = (code i / 26 : Nat)) (ev_var rfl) (evI_op (evI_var rfl) evI_c fun u v hu hv => ⟨⟨by omega, by omega⟩, by rw [hu, hv]; omega⟩) fun m hm => by omega).imp ?_
            rintro t ⟨m, rfl, hm, he⟩
            exact ⟨_, rfl, by rw [show m = code i / 26 by omega]⟩
          · refine (ev_letter (P := fun m => m = (code i % 26 : Nat)) (ev_var rfl) (evI_op (evI_int (evI_var rfl)) evI_c fun u v hu hv => ⟨by omega, by rw [hu, hv]; omega⟩) fun m hm => by omega).imp ?_
            rintro t ⟨m, rfl, hm, he⟩
            exact ⟨_, rfl, by rw [show m = code i % 26 by omega]⟩
          · rintro y z rfl rfl
            exact ⟨by rw [ch_len, ch_len]; omega, _, rfl, rfl⟩
          · exact ev_slP (Φ := fun t => ∃ z : Str, t = .im (.str z) ∧ Lo z ∧ 1 ≤ z.length ∧ z.length ≤ 11) (ev_drawD rfl (ev_var rfl) (ea_cons ev_int ea_nil) ⟨11, rfl, by decide, by decide, rfl⟩) fun z ⟨h1, h2, h3⟩ => ⟨by omega, h1.cut _ _, by have := cut_len z (some 1) none; omega⟩
          · rintro y r rfl ⟨h1, h2⟩
            exact ⟨by rw [len_app, ch_len, ch_len]; omega, _, rfl, r, rfl, h1, h2⟩
        · rintro t ⟨zs, rfl, hzl, hz⟩
          obtain ⟨ns, a1, a2, a3⟩ := to_names (n := n) (fun j z hj ⟨r, hg, hr1, hr2⟩ => by
            subst hg
            have := hcl j
            exact ⟨((Lo.ch (by omega)).app (Lo.ch (by omega))).app hr1, by rw [len_app, len_app, ch_len, ch_len]; omega⟩) (fun i j z hi hj ⟨r, h1, _, _⟩ ⟨r', h2, _, _⟩ => by
            rw [h1] at h2
            have h3 := congrArg (fun z : Str => z.cps.toList) h2
            simp only [cps_app] at h3
            have h4 : (97 + code i / 26) :: (97 + code i % 26) :: r.cps.toList = (97 + code j / 26) :: (97 + code j % 26) :: r'.cps.toList := h3
            injection h4 with h5 h6
            injection h6 with h6 h7
            exact hci i j hi hj (by omega)) hzl hz
          rw [a3]
          exact kk _ ⟨ns, _, _, _, _, _, _, _, _, _, a1, a2, rfl⟩
  · rintro _ ⟨ns, t6, t7, t8, t9, t10, t11, t12, t13, t14, a1, a2, rfl⟩
    refine tr_retR R (ev_drawD rfl (ev_var rfl) (ea_cons (ev_var rfl) ea_nil) ⟨ns.map nD, rfl, by rw [List.length_map]; omega, rfl⟩) ?_
    rintro t ⟨es, hp, rfl⟩
    obtain ⟨ms, m1, m2⟩ := perm_map_inv hp
    exact ⟨ms, m1.nodup_iff.mpr a1, by rw [m1.length_eq, a2], by rw [m2]⟩
end
end Sx
set_option Elab.async false
set_option linter.all false
set_option maxRecDepth 100000
set_option maxHeartbeats 4000000
/-! Plain laws: a drawn line is a line. -/
namespace Sx
open PySem L2 PySem.W
theorem leN_eq (a b : Nm) : leD nD a b = !sLt b.1 a.1 := by
  show (!dataLt (nD b) (nD a)) = _
  have : dataLt (.str b.1) (.str a.1) = sLt b.1 a.1 := dataLt_str _ _
  rw [← this]
theorem sort_two (a b : Nm) : [a, b].mergeSort (leD nD) = [(keyOf a b).1, (keyOf a b).2] := by
  have T := sortLe_total (PyProof.Rows.listOrd PyProof.Rows.itemOrd) false (fun n : Nm => keyToks (nD n))
  refine (Srt.the_of_perm (leD nD) T.trans (fun a b => Bool.or_eq_true_iff.mpr (T.total a b)) (fun _ _ => leD_anti_n) (l := [a, b]) ?_ ?_).symm
  · unfold keyOf
    split
    · exact .refl _
    · exact .swap _ _ _
  · refine List.pairwise_cons.mpr ⟨fun c hc => ?_, List.pairwise_singleton _ _⟩
    rw [List.mem_singleton.mp hc, leN_eq]
    unfold keyOf
    by_cases h : sLt a.1 b.1 = true
    · rw [if_pos h]
      have : sLt b.1 a.1 = false := by
        cases h2 : sLt b.1 a.1 with
        | false => rfl
        | true => exact absurd (of_decide_eq_true h2) (List.lt_asymm (of_decide_eq_true h))
      show (!sLt b.1 a.1) = true
      rw [this]
      rfl
    · rw [if_neg h]
      show (!sLt a.1 b.1) = true
      rw [Bool.not_eq_true] at h
      rw [h]
      rfl
theorem keyOf_two {a b a' b' : Nm} (h : keyOf a b = keyOf a' b') : (a = a' ∧ b = b') ∨ (a = b' ∧ b = a') := by
  unfold keyOf at h
  split at h <;> split at h <;> (injection h with h1 h2)
  · exact .inl ⟨h1, h2⟩
  · exact .inr ⟨h1, h2⟩
  · exact .inr ⟨h2, h1⟩
  · exact .inl ⟨h2, h1⟩
/-- the sections as they are drawn -/
def Drawn (ns : List Nm) (ss : List Nm) (secs : List Sec) : Prop := ∀ (j : Nat) (s : Sec), secs[j]? = some s → s.2.2 ∈ ss ∧ ∃ (o : Nat) (a b : Nm), o ≤ j ∧ ns[j + 1]? = some a ∧ ns[o]? = some b ∧ (s.1, s.2.1) = keyOf a b
theorem nodup_at {α : Type} {l : List α} (h : l.Nodup) {i j : Nat} {a : α} (hi : l[i]? = some a) (hj : l[j]? = some a) : i = j := by
  obtain ⟨h1, e1⟩ := List.getElem?_eq_some_iff.mp hi
  obtain ⟨h2, e2⟩ := List.getElem?_eq_some_iff.mp hj
  have P := List.pairwise_iff_getElem.mp h
  rcases Nat.lt_trichotomy i j with z | z | z
  · exact absurd (e1.trans e2.symm) (P i j h1 h2 z)
  · exact z
  · exact absurd (e2.trans e1.symm) (P j i h2 h1 z)
theorem line_ok {ns ss : List Nm} {secs : List Sec} (hn : ns.Nodup) (h0 : ns ≠ []) (h24 : ns.length ≤ 24) (hl : secs.length + 1 = ns.length) (hd : Drawn ns ss secs) :
    LinOk (ns.mergeSort (leD nD), secs.mergeSort (leD cD)) ∧ ∀ s ∈ secs.mergeSort (leD cD), s.2.2 ∈ ss := by
  have at_of : ∀ s ∈ secs, ∃ j, secs[j]? = some s := fun s m => List.getElem?_of_mem m
  refine ⟨⟨fun e => h0 ?_, ((List.mergeSort_perm _ _).nodup_iff).mpr hn, by rw [List.length_mergeSort]; exact h24, by show (secs.mergeSort (leD cD)).length ≤ 100; rw [List.length_mergeSort]; omega, fun s hs => ?_, fun s hs => ?_, ?_, fun S a ha hSa hcl b hb => ?_⟩, fun s hs => ?_⟩
  · have := congrArg List.length e
    rw [List.length_mergeSort] at this
    exact List.length_eq_zero_iff.mp this
  · have hs : s ∈ secs := List.mem_mergeSort.mp hs
    obtain ⟨j, hj⟩ := at_of s hs
    obtain ⟨_, o, a, b, ho, ha, hb, hk⟩ := hd j s hj
    show s.1 ∈ ns.mergeSort (leD nD) ∧ s.2.1 ∈ ns.mergeSort (leD nD)
    rw [List.mem_mergeSort, List.mem_mergeSort]
    have ma := List.mem_of_getElem? ha
    have mb := List.mem_of_getElem? hb
    unfold keyOf at hk
    split at hk
    · injection hk with h1 h2
      rw [h1, h2]
      exact ⟨ma, mb⟩
    · injection hk with h1 h2
      rw [h1, h2]
      exact ⟨mb, ma⟩
  · have hs : s ∈ secs := List.mem_mergeSort.mp hs
    obtain ⟨j, hj⟩ := at_of s hs
    obtain ⟨_, o, a, b, ho, ha, hb, hk⟩ := hd j s hj
    have := keyOf_idem a b
    rw [← hk] at this
    exact this
  · have hp : (keysL (ns.mergeSort (leD nD), secs.mergeSort (leD cD))).Perm (secs.map fun s => (s.1, s.2.1)) := (List.mergeSort_perm secs (leD cD)).map _
    refine hp.nodup_iff.mpr (List.pairwise_iff_getElem.mpr fun i j hi hj hij e => ?_)
    rw [List.length_map] at hi hj
    rw [List.getElem_map, List.getElem_map] at e
    obtain ⟨_, o, a, b, ho, ha, hb, hk⟩ := hd i _ (List.getElem?_eq_getElem hi)
    obtain ⟨_, o', a', b', ho', ha', hb', hk'⟩ := hd j _ (List.getElem?_eq_getElem hj)
    rw [hk, hk'] at e
    rcases keyOf_two e with ⟨e1, e2⟩ | ⟨e1, e2⟩
    · rw [e1] at ha
      have := nodup_at hn ha ha'
      omega
    · rw [e2] at hb
      have := nodup_at hn hb ha'
      omega
  · have ha : a ∈ ns := List.mem_mergeSort.mp ha
    have hb : b ∈ ns := List.mem_mergeSort.mp hb
    have step : ∀ (j : Nat) (s : Sec), secs[j]? = some s → ∃ (o : Nat) (a b : Nm), o ≤ j ∧ ns[j + 1]? = some a ∧ ns[o]? = some b ∧ (S a ↔ S b) := fun j s hj => by
      obtain ⟨_, o, a, b, ho, ha, hb, hk⟩ := hd j s hj
      have hm := mem_nbrs (L := (ns.mergeSort (leD nD), secs.mergeSort (leD cD))) (s := s) (List.mem_mergeSort.mpr (List.mem_of_getElem? hj))
      refine ⟨o, a, b, ho, ha, hb, ?_⟩
      unfold keyOf at hk
      split at hk
      · injection hk with h1 h2
        rw [h1, h2] at hm
        exact ⟨fun z => hcl a b z hm.1, fun z => hcl b a z hm.2⟩
      · injection hk with h1 h2
        rw [h1, h2] at hm
        exact ⟨fun z => hcl a b z hm.2, fun z => hcl b a z hm.1⟩
    obtain ⟨r, hr⟩ : ∃ r, ns[0]? = some r := ⟨ns[0]'(List.length_pos_iff.mpr h0), List.getElem?_eq_getElem _⟩
    have all : ∀ (i : Nat) (c : Nm), ns[i]? = some c → (S c ↔ S r) := by
      intro i
      induction i using Nat.strongRecOn with
      | _ i ih =>
        intro c hc
        cases i with
        | zero =>
          rw [hr] at hc
          cases hc
          exact Iff.rfl
        | succ j =>
          have hj := (List.getElem?_eq_some_iff.mp hc).1
          have hj2 : j < secs.length := by omega
          obtain ⟨o, a, b, ho, ha, hb, hi⟩ := step j _ (List.getElem?_eq_getElem hj2)
          rw [hc] at ha
          cases ha
          exact hi.trans (ih o (by omega) b hb)
    obtain ⟨i, hi⟩ := List.getElem?_of_mem ha
    obtain ⟨j, hj⟩ := List.getElem?_of_mem hb
    exact (all j b hj).mpr ((all i a hi).mp hSa)
  · have hs : s ∈ secs := List.mem_mergeSort.mp hs
    obtain ⟨j, hj⟩ := at_of s hs
    exact (hd j s hj).1
end Sx
set_option Elab.async false
set_option linter.all false
set_option maxRecDepth 100000
set_option maxHeartbeats 4000000
namespace Sx
open PySem PySem.Spec PyProof.Rows L2
open C8 (Cal pe_c)
abbrev sp__law_line : Sp := spB fun ts Φ => ∃ (n : Nat) (sorts : List Nm), ts = [.im (.int n), .im (.list (sorts.map nD))] ∧ 1 ≤ n ∧ n ≤ 10 ∧ sorts ≠ [] ∧ sorts.length ≤ 100 ∧ Φ = fun t => ∃ L : Lin, LinOk L ∧ L.1.length = n ∧ L.2.length ≤ 10 ∧ (∀ s ∈ L.2, s.2.2 ∈ sorts) ∧ t = .im (lD L)
section
variable {P : Program} {w : World} {K : PySem.W.Frag} {mg : Str → Option Value} {base : Heap}
abbrev s__law_line : Stmt := topS 39
abbrev N__law_line : List Str := ["_law_bag_here", "_law_many", "_law_sorts_here", "_law_names_here", "_law_sections", "_law_way", "_law_at", "_law_other", "_law_one", "_law_two"]
theorem sc__law_line : FnScope N__law_line ["_law_bag_here", "_law_many", "_law_sorts_here"] (defScope s__law_line) := ⟨rfl, rfl, rfl, by decide +kernel, rfl, by decide +kernel, by decide +kernel⟩
theorem bd__law_line (B : Bl mg) (c__law_names : Cal P w K mg base 4 "_law_names" sp__law_names []) (c__law_take : Cal P w K mg base 1 "_law_take" sp__law_take []) (c__law_some : Cal P w K mg base 2 "_law_some" sp__law_some []) : Bod P w K mg base N__law_line "_law_line" s__law_line 4 sp__law_line := fun f cdv A outer s H vs Q E hr h => by
  have hu := hu_of hr
  obtain ⟨b, c, x, us, ts, Φ, rfl, Bg, ⟨n, sorts, rfl, h1, h2, h3, h4, rfl⟩, T, hh, q⟩ := h
  refine ⟨_, (pss_cons (ps_par3 (i := 3) (j := 4) (l := 5) rfl sc__law_line.nd rfl rfl rfl (by decide) (by decide) (by decide) rfl rfl rfl (pa_cons (pe_c c__law_names hr (by decide) (by rfl) (pa_cons (pv 0) (pa_cons (pv 1) pa_nil))) (pa_cons (pe_lst pa_nil) (pa_cons (pe_c c__law_take hr (by decide) (by rfl) (pa_cons (pv 0) (pa_cons pe_int pa_nil))) pa_nil))) (by rfl))
    (pss_cons (ps_for PassesOwn.never rfl (pi_range2 (by rfl) B.m_range (pa_cons pe_int (pa_cons (pv 1) pa_nil))) (pg_name (i := 6) sc__law_line.nd rfl (Or.inl rfl))
      (pss_cons (ps_set (i := 7) sc__law_line.nd rfl (Or.inl rfl) (pe_ifExp (pt_cmpR (op_eqD hr.units) (pv 5) pe_int (nomark _)) (pe_op op_sub (pv 6) pe_int) (pe_ifExp (pt_cmpR (op_eqD hr.units) (pv 5) pe_int (nomark _)) pe_int (pe_c c__law_take hr (by decide) (by rfl) (pa_cons (pv 0) (pa_cons (pv 6) pa_nil))))))
      (pss_cons (ps_asg (pe_callB (cr_sortD hr.units1) (by rfl) B.m_sorted (by decide +kernel) (pa_cons (pe_lst (pa_cons (pe_ix ix_list (pv 3) (pv 6) (fun _ _ => rfl)) (pa_cons (pe_ix ix_list (pv 3) (pv 7) (fun _ _ => rfl)) pa_nil))) pa_nil)) (pg_unl rfl (pgs_cons (pg_name (i := 8) sc__law_line.nd rfl (Or.inl rfl)) (pgs_cons (pg_name (i := 9) sc__law_line.nd rfl (Or.inl rfl)) pgs_nil))))
      (pss_cons (ps_expr (pe_bm PySem.F.plainAttrs_list PySem.F.slot_list_append PySem.F.type_list_append mt_append (pv 4) (pa_cons (pe_tup (pa_cons (pv 8) (pa_cons (pv 9) (pa_cons (pe_c c__law_some hr (by decide) (by rfl) (pa_cons (pv 0) (pa_cons (pv 2) pa_nil))) pa_nil)))) pa_nil)))
      pss_nil))))
    (pss_cons (ps_ret (pe_tup (pa_cons (pe_callTy call_tuple_of (by rfl) B.m_tuple (by decide +kernel) (pa_cons (pe_callB (cr_sortD hr.units1) (by rfl) B.m_sorted (by decide +kernel) (pa_cons (pv 3) pa_nil)) pa_nil)) (pa_cons (pe_callTy call_tuple_of (by rfl) B.m_tuple (by decide +kernel) (pa_cons (pe_callB (cr_sortD hr.units1) (by rfl) B.m_sorted (by decide +kernel) (pa_cons (pv 4) pa_nil)) pa_nil)) pa_nil))))
    pss_nil))), ?_⟩
  refine start_B (N := N__law_line) Bg T hh ?_
  have R := ret_B q
  refine tr_par3 (by show 3 < 10; decide) (by show 4 < 10; decide) (by show 5 < 10; decide) (am_consD (ev_drawD rfl (ev_var rfl) (ea_cons (ev_var rfl) ea_nil) ⟨n, rfl, h2, rfl⟩) (am_consM em_lst0 fun p m e => am_consD (ev_take (n := 4) rfl (ev_var rfl) ev_int (by omega) (by omega)) am_nil)) fun ts l ⟨t1, r1, e1, ⟨ns, hn, hnl, e2⟩, p, m, r2, l2, e3, e4, e5, t3, r3, e6, ⟨way, e7, hw⟩, e8, e9⟩ => ?_
  subst e9 e8 e7 e6 e5 e4 e3 e2 e1
  refine ⟨_, _, _, rfl, ?_⟩
  refine tr_for (src_rng2 (m := 1) (n := n) (ea_cons ev_int (ea_cons (ev_var rfl) ea_nil)) (by omega) (by omega) (by omega)).p (fun _ i s => ∃ (secs : List Sec) (t6 t7 t8 t9 : Ty), secs.length = i ∧ Drawn ns sorts secs ∧ s = ⟨[.rf b, .im (.int n), .im (.list (sorts.map nD)), .im (.list (ns.map nD)), .rf p, .im (.int way), t6, t7, t8, t9], [(p, .lst (secs.map cD))], some (b, c)⟩) (fun _ _ _ => ⟨[], .any, .any, .any, .any, rfl, fun j s e => by simp at e, rfl⟩) (fun _ _ _ ⟨_, _, _, _, _, _, _, e⟩ => by subst e; rfl) ?_ ?_
  · rintro m ty ⟨rfl, rfl⟩ H1 Bs i s hi ⟨secs, t6, t7, t8, t9, hl, hd, rfl⟩
    have hi : i + 1 < n := by omega
    show ∃ ws s', Bd H1 x _ _ (Ty.im (.int (1 + (i : Nat)))) ws s' ∧ _
    rw [show (1 : Int) + (i : Nat) = ((i + 1 : Nat) : Int) by omega]
    refine ⟨_, _, bd_name (by show 6 < 10; decide), ?_⟩
    refine tr_asg (Φ := fun t => ∃ o : Nat, t = .im (.int o) ∧ o ≤ i) (by show 7 < 10; decide) (ev_if (Ψ := fun _ => True) (etI_eq (evI_var rfl) evI_c fun _ _ _ _ => trivial) (fun _ => ?_) fun _ => ev_if (Ψ := fun _ => True) (etI_eq (evI_var rfl) evI_c fun _ _ _ _ => trivial) (fun _ => ?_) fun _ => ?_) ?_
    · exact (ev_opD (ev_var rfl) ev_int rd_i0).imp fun t e => ⟨i, by rw [e]; congr 2; omega, Nat.le_refl _⟩
    · exact ev_int.imp fun t e => ⟨0, e, Nat.zero_le _⟩
    · exact (ev_take (n := (i + 1 : Nat)) rfl (ev_var rfl) (ev_var rfl) (by omega) (by omega)).imp fun t ⟨v, e, hv⟩ => ⟨v, e, by omega⟩
    rintro t ⟨o, rfl, ho⟩
    have ha : ns[i + 1]? = some (ns[i + 1]'(by omega)) := List.getElem?_eq_getElem _
    have hb : ns[o]? = some (ns[o]'(by omega)) := List.getElem?_eq_getElem _
    generalize (ns[i + 1]'(by omega)) = na at ha
    generalize (ns[o]'(by omega)) = nb at hb
    have ga : (ns.map nD)[i + 1]? = some (nD na) := by rw [List.getElem?_map, ha]; rfl
    have gb : (ns.map nD)[o]? = some (nD nb) := by rw [List.getElem?_map, hb]; rfl
    refine tr_asgTD (t := .im (.list [nD (keyOf na nb).1, nD (keyOf na nb).2])) ((ev_sort srtN encS (as := [na, nb]) (ev_lst2 (ev_opD (ev_var rfl) (ev_var rfl) (rd_ixL (at_n ga))) (ev_opD (ev_var rfl) (ev_var rfl) (rd_ixL (at_n gb)))) (by show 2 ≤ 100000; decide)).eq (by rw [sort_two]; rfl)) (bd_unl (bds_cons (bd_name (by show 8 < 10; decide)) (bds_cons (bd_name (by show 9 < 10; decide)) bds_nil))) ?_
    refine tr_app rfl (by rw [List.length_map]; omega) (ev_tupP (Φ := fun t => ∃ so ∈ sorts, t = .im (cD ((keyOf na nb).1, (keyOf na nb).2, so))) (ea_consP (Φ := dt (.im (nD (keyOf na nb).1))) (ev_var rfl) (ea_consP (Φ := dt (.im (nD (keyOf na nb).2))) (ev_var rfl) (ea_consP (Φ := fun t => ∃ so ∈ sorts, t = .im (nD so)) (ev_someL (ds := sorts.map nD) rfl (ev_var rfl) (ev_var rfl) (fun z => h3 (List.map_eq_nil_iff.mp z)) (by rw [List.length_map]; omega) ?_) ea_nil))) ?_) ?_
    · intro d hd
      obtain ⟨so, hso, rfl⟩ := List.mem_map.mp hd
      exact ⟨so, hso, rfl⟩
    · rintro ts ⟨t1, r1, rfl, rfl, t2, r2, rfl, rfl, t3, r3, rfl, ⟨so, hso, rfl⟩, rfl⟩
      exact ⟨[_, _, _], rfl, by show 3 ≤ 100000; decide, so, hso, rfl⟩
    rintro t ⟨so, hso, rfl⟩
    refine ⟨_, rfl, tr_next fun σ H S => ⟨_, ⟨secs ++ [((keyOf na nb).1, (keyOf na nb).2, so)], _, _, _, _, by rw [List.length_append, List.length_singleton, hl], fun j s hj => ?_, rfl⟩, by rw [List.map_append]; exact S⟩⟩
    by_cases hjl : j < secs.length
    · rw [List.getElem?_append_left hjl] at hj
      exact hd j s hj
    · rw [List.getElem?_append_right (by omega)] at hj
      have hj1 := (List.getElem?_eq_some_iff.mp hj).1
      have hj1 : j - secs.length < 1 := hj1
      have hj0 : j - secs.length = 0 := by omega
      rw [hj0] at hj
      have hj : _ = s := Option.some.inj hj
      subst hj
      have hji : j = i := by omega
      subst hji
      exact ⟨hso, o, na, nb, ho, ha, hb, rfl⟩
  · rintro m ty ⟨rfl, rfl⟩ s ⟨secs, t6, t7, t8, t9, hl, hd, rfl⟩
    have hl : secs.length + 1 = n := by omega
    obtain ⟨g1, g2⟩ := line_ok hn (fun z => by rw [z] at hnl; simp at hnl; omega) (by omega) (by omega) hd
    refine tr_frz (i := 4) rfl (tr_retR R (ev_tup2 (ev_tupL (ev_sort srtN encS (as := ns) (ev_var rfl) (by omega))) (ev_tupL (ev_sort srtC encC (as := secs) (ev_var rfl) (by omega)))) fun t e => ⟨_, g1, ?_, ?_, g2, e⟩)
    · rw [← hnl]
      exact List.length_mergeSort ..
    · show (secs.mergeSort (leD cD)).length ≤ 10
      rw [List.length_mergeSort]
      omega
end
end Sx
set_option Elab.async false
set_option linter.all false
set_option maxRecDepth 100000
set_option maxHeartbeats 4000000
namespace Sx
open PySem PySem.Spec PyProof.Rows L2
open C8 (Cal pe_c)
theorem find_nodupG {κ β : Type} [DecidableEq κ] {f : List (κ × β)} (h : (f.map (·.1)).Nodup) {j : Nat} {o : κ} {p : β} (e : f[j]? = some (o, p)) : f.find? (fun q => decide (q.1 = o)) = some (o, p) := by
  induction f generalizing j with
  | nil => simp at e
  | cons q f ih =>
    rw [List.map_cons, List.nodup_cons] at h
    cases j with
    | zero =>
      have e : q = (o, p) := by simpa using e
      subst e
      rw [List.find?_cons_of_pos (by simp)]
    | succ j =>
      have e : f[j]? = some (o, p) := by simpa using e
      rw [List.find?_cons_of_neg]
      · exact ih h.2 e
      · simp only [decide_eq_true_eq]
        intro z
        exact h.1 (by rw [z]; exact List.mem_map.mpr ⟨(o, p), List.mem_of_getElem? e, rfl⟩)
theorem valD_at {κ : Type} [DecidableEq κ] {f : List (κ × PyData)} (h : (f.map (·.1)).Nodup) {k : κ} {d : PyData} (m : (k, d) ∈ f) : valD f k = some d := by
  obtain ⟨j, hj⟩ := List.getElem?_of_mem m
  unfold valD
  rw [find_nodupG h hj]
  rfl
/-! ### walks -/
def Goes (L : Lin) (a : Nm) (st : List Nm) : Prop := ∀ p ∈ pf a st, p.2 ∈ nbrs L p.1
structure NearOk (L : Lin) (kvs : List (Key × PyData)) : Prop where
  at_ : ∀ a ∈ L.1, ∃ ns : List Nm, valD kvs (kN a) = some (.list (ns.map nD)) ∧ ns.length ≤ 200 ∧ ∀ b, b ∈ ns ↔ b ∈ nbrs L a
def lastOf (a : Nm) : List Nm → Nm
  | [] => a
  | b :: r => lastOf b r
theorem pf_app : ∀ (a : Nm) (xs ys : List Nm), pf a (xs ++ ys) = pf a xs ++ pf (lastOf a xs) ys
  | _, [], _ => rfl
  | a, b :: xs, ys => by
    show (a, b) :: pf b (xs ++ ys) = (a, b) :: (pf b xs ++ pf (lastOf b xs) ys)
    rw [pf_app b xs ys]
theorem Goes.app {L : Lin} {a : Nm} {xs ys : List Nm} (h : Goes L a xs) (h' : Goes L (lastOf a xs) ys) : Goes L a (xs ++ ys) := fun p hp => by
  rw [pf_app] at hp
  rcases List.mem_append.mp hp with m | m
  · exact h p m
  · exact h' p m
theorem Goes.in {L : Lin} (O : LinOk L) {a : Nm} : ∀ {xs : List Nm} {b : Nm}, Goes L b xs → ∀ x ∈ xs, x ∈ L.1
  | [], _, _, _, m => nomatch m
  | c :: xs, b, h, x, m => by
    have h1 : c ∈ nbrs L b := h (b, c) List.mem_cons_self
    obtain ⟨s, hs, h2⟩ := nbrs_mem h1
    have hc : c ∈ L.1 := by
      rcases h2 with h2 | h2
      · rw [← h2.2]
        exact (O.en s hs).2
      · rw [← h2.2]
        exact (O.en s hs).1
    rcases List.mem_cons.mp m with m | m
    · rw [m]
      exact hc
    · exact Goes.in O (a := a) (xs := xs) (b := c) (fun p hp => h p (List.mem_cons_of_mem _ hp)) x m
theorem lastOf_app (a : Nm) : ∀ (xs : List Nm) (b : Nm), lastOf a (xs ++ [b]) = b
  | [], _ => rfl
  | c :: xs, b => lastOf_app c xs b
theorem nbr_symm {L : Lin} {a b : Nm} (h : b ∈ nbrs L a) : a ∈ nbrs L b := by
  obtain ⟨s, hs, h | h⟩ := nbrs_mem h
  · have := (mem_nbrs hs).2
    rw [h.1, h.2] at this
    exact this
  · have := (mem_nbrs hs).1
    rw [h.1, h.2] at this
    exact this
theorem lastOf_in {L : Lin} {a : Nm} : ∀ {xs : List Nm}, a ∈ L.1 → (∀ x ∈ xs, x ∈ L.1) → lastOf a xs ∈ L.1
  | [], h, _ => h
  | b :: xs, _, h => lastOf_in (xs := xs) (h b List.mem_cons_self) fun x m => h x (List.mem_cons_of_mem _ m)
theorem sec_of {L : Lin} (O : LinOk L) {s : Sec} (hs : s ∈ L.2) : secOf L (s.1, s.2.1) = some s := by
  obtain ⟨j, hj⟩ := List.getElem?_of_mem hs
  unfold secOf
  have := find_nodupG (f := L.2.map fun s => ((s.1, s.2.1), s.2.2)) (j := j) (o := (s.1, s.2.1)) (p := s.2.2) (by
    rw [List.map_map]
    exact O.kd) (by rw [List.getElem?_map, hj]; rfl)
  rw [List.find?_map] at this
  obtain ⟨q, h1, h2⟩ := Option.map_eq_some_iff.mp this
  have e : (fun s : Sec => decide ((s.1, s.2.1) = (q.1, q.2.1))) = fun s : Sec => decide ((s.1, s.2.1) = (q.1, q.2.1)) := rfl
  have h3 : ((q.1, q.2.1), q.2.2) = ((s.1, s.2.1), s.2.2) := h2
  have h4 : q = s := by
    injection h3 with h5 h6
    injection h5 with h5 h7
    exact Prod.ext h5 (Prod.ext h7 h6)
  rw [← h4]
  rw [h4]
  rw [h4] at h1
  exact h1
theorem sort_of_sec {L : Lin} (O : LinOk L) {s : Sec} (hs : s ∈ L.2) : sortOf L (s.1, s.2.1) = some s.2.2 := by
  unfold sortOf
  rw [show keyOf (s.1, s.2.1).1 (s.1, s.2.1).2 = (s.1, s.2.1) from O.or s hs, sec_of O hs]
  rfl
theorem nbr_sort {L : Lin} (O : LinOk L) {a b : Nm} (h : b ∈ nbrs L a) : ∃ s ∈ L.2, keyOf a b = (s.1, s.2.1) ∧ sortOf L (keyOf a b) = some s.2.2 := by
  obtain ⟨s, hs, h | h⟩ := nbrs_mem h
  · refine ⟨s, hs, ?_, ?_⟩
    · rw [← h.1, ← h.2]
      exact O.or s hs
    · rw [← h.1, ← h.2, O.or s hs]
      exact sort_of_sec O hs
  · refine ⟨s, hs, ?_, ?_⟩
    · rw [← h.1, ← h.2, keyOf_comm]
      exact O.or s hs
    · rw [← h.1, ← h.2, keyOf_comm, O.or s hs]
      exact sort_of_sec O hs
/-- a train that walks along sections -/
structure TrnOk (L : Lin) (t : Trn) : Prop where
  pl : t.2.1 ∈ L.1
  go : Goes L t.2.1 t.2.2
theorem TrnOk.ps {L : Lin} (O : LinOk L) {t : Trn} (h : TrnOk L t) (hl : t.2.2.length ≤ 60) : PsOk L t :=
  ⟨h.pl, hl, Goes.in O (a := t.2.1) h.go, fun p hp => by
    obtain ⟨s, _, _, h2⟩ := nbr_sort O (h.go p hp)
    exact ⟨s.2.2, h2⟩⟩
/-! ### promises -/
abbrev sp__law_key : Sp := sp_key_of
abbrev sp__law_sorts : Sp := spF fun ts Φ => ∃ L : Lin, ts = [.im (lD L)] ∧ LinOk L ∧ Φ = fun t => ∃ kvs, t = .dT kvs ∧ ∀ s ∈ L.2, valD kvs (kKK (s.1, s.2.1)) = some (nD s.2.2)
abbrev sp__law_near : Sp := spF fun ts Φ => ∃ L : Lin, ts = [.im (lD L)] ∧ LinOk L ∧ Φ = fun t => ∃ kvs, t = .dK kvs ∧ NearOk L kvs
abbrev sp__law_walk : Sp := spB fun ts Φ => ∃ (L : Lin) (kvs : List (Key × PyData)) (a : Nm) (n : Nat), ts = [.dK kvs, .im (nD a), .im (.int n)] ∧ LinOk L ∧ NearOk L kvs ∧ a ∈ L.1 ∧ n ≤ 10 ∧ Φ = fun t => ∃ st : List Nm, t = .im (sD st) ∧ st.length ≤ n ∧ Goes L a st
def intsD (kvs : List (List Key × PyData)) : Prop := ∀ e ∈ kvs, ∃ n, e.2 = PyData.int n
abbrev spCntT : Sp := spF fun ts Φ => ∃ T : List Trn, ts = [.im (.tuple (T.map tD))] ∧ T.length ≤ 20 ∧ (∀ t ∈ T, t.2.2.length ≤ 60) ∧ Φ = fun t => ∃ kvs, t = .dT kvs ∧ intsD kvs
abbrev spCntL : Sp := spF fun ts Φ => ∃ T : List Trn, ts = [.im (.list (T.map tD))] ∧ T.length ≤ 20 ∧ (∀ t ∈ T, t.2.2.length ≤ 60) ∧ Φ = fun t => ∃ kvs, t = .dT kvs ∧ intsD kvs
abbrev sp__law_counts : Sp := spOr spCntT spCntL
abbrev sp__law_trains : Sp := spB fun ts Φ => ∃ (L : Lin) (n st : Nat), ts = [.im (lD L), .im (.int n), .im (.int st)] ∧ LinOk L ∧ n ≤ 10 ∧ st ≤ 9 ∧ Φ = fun t => ∃ T : List Trn, t = .im (.tuple (T.map tD)) ∧ (T.map (·.1)).Nodup ∧ T.length = n ∧ ∀ u ∈ T, TrnOk L u ∧ u.2.2.length ≤ st
def freeK (L : Lin) : List Key2 := (L.2.filter fun s => !decide (s.2.2 = freeN)).map fun s => (s.1, s.2.1)
structure StfOk (L : Lin) (F : List Stf) : Prop where
  ky : F.map (·.1) = freeK L
  st : ∀ f ∈ F, f.2 ∈ L.1
abbrev sp__law_staffs : Sp := spB fun ts Φ => ∃ (L : Lin) (T : List Trn), ts = [.im (lD L), .im (.tuple (T.map tD))] ∧ LinOk L ∧ T.length ≤ 20 ∧ (∀ t ∈ T, t.2.2.length ≤ 60) ∧ Φ = fun t => ∃ F : List Stf, t = fzTy F ∧ StfOk L F
section
variable {H0 : Hp} {x : List Addr} {ss : SS} {ta : TA} {E : XK}
theorem ev_callO {sp : Sp} {S : List Ty → (Ty → Prop) → Prop} {Φ : Ty → Prop} {ts : List Ty} (hs : ∀ vs H Q, spF S vs H Q E → sp vs H Q E) (h : EaD H0 x ss ta ts) (k : S ts Φ) : Ev H0 x ss (tCall sp [] E ta) Φ := fun σ H Z Q q =>
  h σ H Z _ fun ts' vs H1 p1 S1 e1 r => by
    subst p1
    rw [List.append_nil]
    refine hs _ _ _ ⟨ss.M x, ts', Φ, k, S1.trk, r, fun t v H2 p2 e2 r2 => q t v H2 p2 (S1.pure e2) (e1.trans (hid_mono e2)) r2⟩
end
section
variable {P : Program} {w : World} {K : PySem.W.Frag} {mg : Str → Option Value} {base : Heap}
abbrev s__law_key : Stmt := topS 41
abbrev N__law_key : List Str := ["_law_one", "_law_other"]
theorem sc__law_key : FnScope N__law_key ["_law_one", "_law_other"] (defScope s__law_key) := ⟨rfl, rfl, rfl, by decide +kernel, rfl, by decide +kernel, by decide +kernel⟩
theorem bd__law_key (B : Bl mg)  : Bod P w K mg base N__law_key "_law_key" s__law_key 0 sp__law_key := fun f cdv A outer s H vs Q E hr h => by
  have hu := hu_of hr
  obtain ⟨x, ts, Φ, ⟨a, b, rfl, rfl⟩, T, hh, q⟩ := h
  refine ⟨_, (pss_cons (ps_ret (pe_ifExp (pt_cmpR op_ltT2 (pv 0) (pv 1) (nomark _)) (pe_tup (pa_cons (pv 0) (pa_cons (pv 1) pa_nil))) (pe_tup (pa_cons (pv 1) (pa_cons (pv 0) pa_nil)))))
    pss_nil), ?_⟩
  refine start_F (N := N__law_key) T hh ?_
  refine tr_retR (ret_F q) (Ψ := dt (.im (kD (keyOf a b)))) (ev_if (et_test (ev_opD (ev_var rfl) (ev_var rfl) rd_ltT)) (fun e => ?_) fun e => ?_) fun _ h => h
  · refine (ev_tup2 (ev_var (t := .im (nD a)) rfl) (ev_var (t := .im (nD b)) rfl)).eq ?_
    unfold keyOf
    rw [if_pos e.symm]
    rfl
  · refine (ev_tup2 (ev_var (t := .im (nD b)) rfl) (ev_var (t := .im (nD a)) rfl)).eq ?_
    unfold keyOf
    rw [if_neg (by rw [← e]; exact Bool.false_ne_true)]
    rfl
abbrev s__law_sorts : Stmt := topS 42
abbrev N__law_sorts : List Str := ["_law_line_here", "_law_one", "_law_other", "_law_sort"]
theorem sc__law_sorts : FnScope N__law_sorts ["_law_line_here"] (defScope s__law_sorts) := ⟨rfl, rfl, rfl, by decide +kernel, rfl, by decide +kernel, by decide +kernel⟩
theorem bd__law_sorts (B : Bl mg)  : Bod P w K mg base N__law_sorts "_law_sorts" s__law_sorts 0 sp__law_sorts := fun f cdv A outer s H vs Q E hr h => by
  have hu := hu_of hr
  obtain ⟨x, ts, Φ, ⟨L, rfl, O, rfl⟩, T, hh, q⟩ := h
  refine ⟨_, (pss_cons (ps_ret (pe_callTy (cr_dictT rfl hr.units1) (by rfl) B.m_dict (by decide +kernel) (pa_cons (pe_lc (own := [("_law_one", 1), ("_law_other", 2), ("_law_sort", 3)]) (g := (gTup K 3 (gCons (gName 1) (gCons (gName 2) (gCons (gName 3) gNil))))) (tt := tYes) (te := (tTup (tCons (tTup (tCons (tVar 1) (tCons (tVar 2) tNil))) (tCons (tVar 3) tNil)))) rfl sc__law_sorts.nd (pi_tup (pe_ix ix_tup (pv 0) pe_int (fun _ _ => rfl))) (blkOk_by (own := [("_law_one", 1), ("_law_other", 2), ("_law_sort", 3)]) (N := N__law_sorts) (sc := defScope s__law_sorts) (by decide +kernel)) (fun _ _ _ _ _ => (pg_tup rfl (pgs_cons (pg_name (i := 1) sc__law_sorts.nd rfl (Or.inl rfl)) (pgs_cons (pg_name (i := 2) sc__law_sorts.nd rfl (Or.inl rfl)) (pgs_cons (pg_name (i := 3) sc__law_sorts.nd rfl (Or.inl rfl)) pgs_nil))))) (fun _ _ _ _ _ => pts_nil) (fun _ _ _ _ _ => (pe_tup (pa_cons (pe_tup (pa_cons (pv 1) (pa_cons (pv 2) pa_nil))) (pa_cons (pv 3) pa_nil))))) pa_nil)))
    pss_nil), ?_⟩
  refine start_F (N := N__law_sorts) T hh ?_
  have R := ret_F q
  refine tr_retR R (EvM.ev (Ψ := fun t => ∃ kvs, t = .dT kvs ∧ ∀ s ∈ L.2, valD kvs (kKK (s.1, s.2.1)) = some (nD s.2.2)) (em_dictL (ts := L.2.map fun s => ((s.1, s.2.1), nD s.2.2)) ((ev_lcM (as := L.2) (f := cD) (h := fun q : Key2 × PyData => .tuple [kD q.1, q.2]) (e := fun s => ((s.1, s.2.1), nD s.2.2)) (srcT (ev_ixT (ev_var (t := .im (lD L)) rfl))) (by have := O.sl; omega) fun H1 Bs D acc a _ => ⟨_, _, bd_tup (bds_cons (bd_name (by show 1 < 4; decide)) (bds_cons (bd_name (by show 2 < 4; decide)) (bds_cons (bd_name (by show 3 < 4; decide)) bds_nil))), by decide, rfl, rfl, ?_⟩)) ?_ ?_) ?_) fun t h => h
  · exact ev_tup2 (ev_tup2 (ev_var (t := .im (nD a.1)) rfl) (ev_var (t := .im (nD a.2.1)) rfl)) (ev_var (t := .im (nD a.2.2)) rfl)
  · rw [List.map_map]
    exact O.kd
  · rw [List.length_map]
    have := O.sl
    omega
  · rintro m rfl
    refine ⟨_, rfl, fun s hs => ?_⟩
    refine valD_at ?_ ?_
    · refine kKK_nodup ?_
      rw [List.map_map]
      exact O.kd
    · rw [List.map_map]
      exact List.mem_map.mpr ⟨s, hs, rfl⟩
abbrev s__law_walk : Stmt := topS 43
abbrev N__law_walk : List Str := ["_law_bag_here", "_law_near_here", "_law_place", "_law_many", "_law_found", "_law_last", "_law_turn", "_law_some_here", "_law_one"]
theorem sc__law_walk : FnScope N__law_walk ["_law_bag_here", "_law_near_here", "_law_place", "_law_many"] (defScope s__law_walk) := ⟨rfl, rfl, rfl, by decide +kernel, rfl, by decide +kernel, by decide +kernel⟩
theorem bd__law_walk (B : Bl mg) (c__law_some : Cal P w K mg base 2 "_law_some" sp__law_some []) (c__law_take : Cal P w K mg base 1 "_law_take" sp__law_take []) : Bod P w K mg base N__law_walk "_law_walk" s__law_walk 2 sp__law_walk := fun f cdv A outer s H vs Q E hr h => by
  have hu := hu_of hr
  obtain ⟨b, c, x, us, ts, Φ, rfl, Bg, ⟨L, kvs, a, n, rfl, O, N, ha, hn, rfl⟩, T, hh, q⟩ := h
  refine ⟨_, (pss_cons (ps_asg (pe_tup (pa_cons (pe_lst pa_nil) (pa_cons pe_non pa_nil))) (pg_tup rfl (pgs_cons (pg_name (i := 4) sc__law_walk.nd rfl (Or.inl rfl)) (pgs_cons (pg_name (i := 5) sc__law_walk.nd rfl (Or.inr rfl)) pgs_nil))))
    (pss_cons (ps_for PassesOwn.never rfl (pi_range1 (by rfl) B.m_range (pa_cons (pe_ifExp (pt_cmpR (op_neD hr.units) (pe_dget hu (pv 1) (pv 2) (fun _ _ => rfl)) (pe_lst pa_nil) (nomark _)) (pv 3) pe_int) pa_nil)) (pg_name (i := 6) sc__law_walk.nd rfl (Or.inl rfl))
      (pss_cons (ps_set (i := 7) sc__law_walk.nd rfl (Or.inl rfl) (pe_ifExp (pt_cmpR op_gt (pe_c c__law_take hr (by decide) (by rfl) (pa_cons (pv 0) (pa_cons pe_int pa_nil))) pe_int (nomark _)) (pe_lc (own := [("_law_one", 8)]) (g := (gName 8)) (tt := (tTest (tOp (rNeD K) (tVar 8) (tVar 5)))) (te := (tVar 8)) rfl sc__law_walk.nd (pi_list (pe_dget hu (pv 1) (pv 2) (fun _ _ => rfl))) (blkOk_by (own := [("_law_one", 8)]) (N := N__law_walk) (sc := defScope s__law_walk) (by decide +kernel)) (fun _ _ _ _ _ => (pg_name (i := 8) sc__law_walk.nd rfl (Or.inl rfl))) (fun _ _ _ _ _ => (pts_one (pt_cmpR (op_neD hr.units) (pv 8) (pv 5) (nomark _)))) (fun _ _ _ _ _ => (pv 8))) (pe_dget hu (pv 1) (pv 2) (fun _ _ => rfl))))
      (pss_cons (ps_set (i := 7) sc__law_walk.nd rfl (Or.inl rfl) (pe_ifExp (pt_cmpR (op_eqD hr.units) (pv 7) (pe_lst pa_nil) (nomark _)) (pe_dget hu (pv 1) (pv 2) (fun _ _ => rfl)) (pv 7)))
      (pss_cons (ps_asg (pe_tup (pa_cons (pv 2) (pa_cons (pe_c c__law_some hr (by decide) (by rfl) (pa_cons (pv 0) (pa_cons (pv 7) pa_nil))) pa_nil))) (pg_tup rfl (pgs_cons (pg_name (i := 5) sc__law_walk.nd rfl (Or.inr rfl)) (pgs_cons (pg_name (i := 2) sc__law_walk.nd rfl (Or.inl rfl)) pgs_nil))))
      (pss_cons (ps_expr (pe_bm PySem.F.plainAttrs_list PySem.F.slot_list_append PySem.F.type_list_append mt_append (pv 4) (pa_cons (pv 2) pa_nil)))
      pss_nil)))))
    (pss_cons (ps_ret (pe_callTy call_tuple_of (by rfl) B.m_tuple (by decide +kernel) (pa_cons (pv 4) pa_nil)))
    pss_nil))), ?_⟩
  refine start_B (N := N__law_walk) Bg T hh ?_
  have R := ret_B q
  refine tr_asgTup2 (by show 4 < 9; decide) (by show 5 < 9; decide) (am_consM em_lst0 fun p m e => am_consD ev_non am_nil) fun ts l ⟨p, m, r, l', e1, e2, e3, t, r2, e4, e5, e6, e7⟩ => ?_
  subst e7 e6 e5 e4 e3 e2 e1
  refine ⟨_, _, rfl, ?_⟩
  obtain ⟨ns0, hv0, hl0, hb0⟩ := N.at_ a ha
  refine tr_for (srcP_rng1 (Ψ := fun m ty => m ≤ n ∧ (ns0 = [] → m = 0)) (ea_consP (Φ := fun t => ∃ m : Nat, t = .im (.int m) ∧ m ≤ n ∧ (ns0 = [] → m = 0)) (ev_if (et_test (ev_neE encS.ll (a := ns0) (b := []) (ev_dgetK (dk_dataK (ev_var rfl)) (ev_var rfl) hv0) ev_lst0)) (fun e => ?_) fun e => ?_) ea_nil) ?_)
    (fun _ i s => ∃ (st : List Nm) (pl : Nm) (la : Option Nm) (t6 t7 t8 : Ty), st.length = i ∧ Goes L a st ∧ pl = lastOf a st ∧ pl ∈ L.1 ∧ (la = none → st = []) ∧ (∀ z, la = some z → pl ∈ nbrs L z) ∧ s = ⟨[.rf b, .dK kvs, .im (nD pl), .im (.int n), .rf p, .im (oD nD la), t6, t7, t8], [(p, .lst (st.map nD))], some (b, c)⟩)
    (fun _ _ _ => ⟨[], a, none, .any, .any, .any, rfl, fun _ m => (nomatch m), rfl, ha, fun _ => rfl, (fun z e => by cases e), rfl⟩) (fun _ _ _ ⟨_, _, _, _, _, _, _, _, _, _, _, _, e⟩ => by subst e; rfl) ?_ ?_
  · exact (ev_var rfl).imp fun t et => ⟨n, et, Nat.le_refl _, fun z => absurd z (ndec_t e)⟩
  · exact ev_int.imp fun t et => ⟨0, et, Nat.zero_le _, fun _ => rfl⟩
  · rintro ts ⟨t, r, rfl, ⟨m, rfl, h1, h2⟩, rfl⟩
    exact ⟨m, rfl, by omega, by omega, by omega, fun z => by have := h2 z; omega⟩
  · rintro m ty ⟨hm, hm0⟩ H1 Bs i s hi ⟨st, pl, la, t6, t7, t8, hsl, hgo, hpl, hpL, hln, hla, rfl⟩
    obtain ⟨ns, hv, hl, hnb⟩ := N.at_ pl hpL
    have hne : ns ≠ [] := fun z => by
      cases la with
      | none =>
        have hst := hln rfl
        subst hst
        have hpa : pl = a := hpl
        subst hpa
        rw [hv] at hv0
        have e1 : ns.map nD = ns0.map nD := by
          injection hv0 with e
          injection e
        rw [z] at e1
        have e2 : ns0 = [] := List.map_eq_nil_iff.mp e1.symm
        have := hm0 e2
        omega
      | some w =>
        have h1 := (hnb w).mpr (nbr_symm (hla w rfl))
        rw [z] at h1
        cases h1
    refine ⟨_, _, bd_name (by show 6 < 9; decide), ?_⟩
    refine tr_asg (Φ := fun t => ∃ ms : List Nm, t = .im (.list (ms.map nD)) ∧ ms.length ≤ 200 ∧ ∀ z ∈ ms, z ∈ nbrs L pl) (by show 7 < 9; decide) (ev_if (Ψ := fun _ => True) (etI (P1 := fun _ => True) ((ev_take (n := 4) rfl (ev_var rfl) ev_int (by omega) (by omega)).imp fun t ⟨v, e, hv⟩ => (⟨v, e, trivial⟩ : ∃ n : Int, t = .im (.int n) ∧ True)) evI_c fun _ _ _ _ => trivial) (fun _ => ?_) fun _ => ?_) ?_
    · refine (ev_lcE (as := ns) (f := nD) (h := nD) (c := fun z => !decide (some z = la)) (e := fun z => z) (srcL (ev_dgetK (dk_dataK (ev_var rfl)) (ev_var rfl) hv)) (by omega) fun H1 Bs D acc z _ => ⟨_, _, bd_name (by show 8 < 9; decide), by decide, rfl, rfl, et_test (ev_neE encO (a := some z) (b := la) (ev_var rfl) (ev_var rfl)), fun _ => ev_var rfl⟩).imp fun t e => ⟨_, e, ?_, fun z hz => ?_⟩
      · rw [List.map_id']
        exact Nat.le_trans (List.length_filter_le _ _) hl
      · rw [List.map_id'] at hz
        exact (hnb z).mp ((List.mem_filter.mp hz).1)
    · exact (ev_dgetK (dk_dataK (ev_var rfl)) (ev_var rfl) hv).imp fun t e => ⟨ns, e, hl, fun z hz => (hnb z).mp hz⟩
    rintro t ⟨ms, rfl, hml, hmm⟩
    refine tr_asg (Φ := fun t => ∃ ms : List Nm, t = .im (.list (ms.map nD)) ∧ ms.length ≤ 200 ∧ ms ≠ [] ∧ ∀ z ∈ ms, z ∈ nbrs L pl) (by show 7 < 9; decide) (ev_if (et_test (ev_eqE encS.ll (a := ms) (b := []) (ev_var rfl) ev_lst0)) (fun e => ?_) fun e => ?_) ?_
    · exact (ev_dgetK (dk_dataK (ev_var rfl)) (ev_var rfl) hv).imp fun t e => ⟨ns, e, hl, hne, fun z hz => (hnb z).mp hz⟩
    · exact (ev_var rfl).imp fun t et => ⟨ms, et, hml, of_decide_eq_false e.symm, hmm⟩
    rintro t ⟨ks, rfl, hkl, hkn, hkm⟩
    refine tr_asgTup2 (by show 5 < 9; decide) (by show 2 < 9; decide) (am_consD (Φ := dt (.im (nD pl))) (ev_var rfl) (am_consD (Φ := fun t => ∃ z, t = .im (nD z) ∧ z ∈ nbrs L pl) (ev_someL (ds := ks.map nD) rfl (ev_var rfl) (ev_var rfl) (fun z => hkn (List.map_eq_nil_iff.mp z)) (by rw [List.length_map]; omega) ?_) am_nil)) fun ts l ⟨t1, r1, e1, e2, t2, r2, e3, ⟨z, e4, hz⟩, e5, e6⟩ => ?_
    · intro d hd
      obtain ⟨z, hz, rfl⟩ := List.mem_map.mp hd
      exact ⟨z, rfl, hkm z hz⟩
    subst e6 e5 e4 e3 e2 e1
    refine ⟨_, _, rfl, ?_⟩
    refine tr_app rfl (by rw [List.length_map]; omega) (ev_var (t := .im (nD z)) rfl) fun t et => ⟨_, et, tr_next fun σ H S => ⟨_, ⟨st ++ [z], z, some pl, _, _, _, by rw [List.length_append, List.length_singleton, hsl], hgo.app fun q hq => ?_, (lastOf_app a st z).symm, ?_, (fun e => by cases e), ?_, rfl⟩, by rw [List.map_append]; exact S⟩⟩
    · rw [← hpl] at hq
      have hq : q ∈ [(pl, z)] := hq
      rw [List.mem_singleton.mp hq]
      exact hz
    · obtain ⟨s, hs, h | h⟩ := nbrs_mem hz
      · rw [← h.2]
        exact (O.en s hs).2
      · rw [← h.2]
        exact (O.en s hs).1
    · rintro w e
      injection e with e
      rw [← e]
      exact hz
  · rintro m ty ⟨hm, hm0⟩ s ⟨st, pl, la, t6, t7, t8, hsl, hgo, hpl, hpL, hln, hla, rfl⟩
    exact tr_frz (i := 4) rfl (tr_retR R (ev_tupL (ds := st.map nD) (ev_var rfl)) fun t et => ⟨st, et, by omega, hgo⟩)
end
end Sx
set_option Elab.async false
set_option linter.all false
set_option maxRecDepth 100000
set_option maxHeartbeats 4000000
namespace Sx
open PySem PySem.Spec PyProof.Rows L2
open C8 (Cal pe_c)
/-- the counting of passes: over a tuple or a list of trains -/
theorem tr_counts {H0 : Hp} {x : List Addr} {T : List Trn} {wi : TI} {K : PySem.W.Frag} {t0 : Ty} {p : Addr} {u : TS} {D : Ends} (hs : SrcP H0 x ⟨[t0, .rf p, .any, .any, .any, .any], [(p, .dT [])], none⟩ wi (fun n ty => n = T.length ∧ ∀ i a, T[i]? = some a → ty i = .im (tD a)))
    (hl : T.length ≤ 20) (ht : ∀ t ∈ T, t.2.2.length ≤ 60) (k : ∀ s, (∃ kvs t2 t3 t4 t5, intsD kvs ∧ s = ⟨[t0, .rf p, t2, t3, t4, t5], [(p, .dT kvs)], none⟩) → Tr H0 x s u D) :
    Tr H0 x ⟨[t0, .rf p, .any, .any, .any, .any], [(p, .dT [])], none⟩ (tSeq (tFor wi (gTup K 3 (gCons (gName 2) (gCons (gName 3) (gCons (gName 4) gNil)))) (tSeq (tFor (iTup K (tVar 4)) (gName 5) (tSeq (sDPut (tVar 1) (tTup (tCons (tVar 3) (tCons (tVar 5) tNil))) (tOp (rI0 fun i j => .int (i + j)) (tDGet2 (tVar 1) (tTup (tCons (tVar 3) (tCons (tVar 5) tNil))) (tC (.int 0))) (tC (.int 1)))) (tSeq (tAsg (tVar 5) (gName 3)) tNext))) tNext)) u) D := by
  refine tr_forE hs (fun i s => ∃ kvs t2 t3 t4 t5, intsD kvs ∧ kvs.length ≤ 60 * i ∧ s = ⟨[t0, .rf p, t2, t3, t4, t5], [(p, .dT kvs)], none⟩) ⟨[], .any, .any, .any, .any, (fun e m => nomatch m), by simp, rfl⟩ (fun _ _ ⟨_, _, _, _, _, _, _, e⟩ => by subst e; rfl) ?_ ?_
  · rintro H1 Bs i t s he ⟨kvs, t2, t3, t4, t5, hi, hk, rfl⟩
    have hil := (List.getElem?_eq_some_iff.mp he).1
    have htl := ht t (List.mem_of_getElem? he)
    refine ⟨_, _, bd_tup (bds_cons (bd_name (by show 2 < 6; decide)) (bds_cons (bd_name (by show 3 < 6; decide)) (bds_cons (bd_name (by show 4 < 6; decide)) bds_nil))), ?_⟩
    refine tr_forE (as := t.2.2) (f := nD) (srcT (ev_var rfl)) (fun j s => ∃ (kvs : List (List Key × PyData)) (pl : Nm) (t5 : Ty), intsD kvs ∧ kvs.length ≤ 60 * i + j ∧ s = ⟨[t0, .rf p, .im (nD t.1), .im (nD pl), .im (sD t.2.2), t5], [(p, .dT kvs)], none⟩) ⟨kvs, t.2.1, t5, hi, by omega, rfl⟩ (fun _ _ ⟨_, _, _, _, _, e⟩ => by subst e; rfl) ?_ ?_
    · rintro H2 Bs2 j z s hz ⟨kvs, pl, t5, hi, hk, rfl⟩
      have hjl := (List.getElem?_eq_some_iff.mp hz).1
      refine ⟨_, _, bd_name (by show 5 < 6; decide), ?_⟩
      obtain ⟨v, hv⟩ : ∃ v : Int, (valD kvs (kKK (pl, z))).getD (.int 0) = .int v := by
        by_cases y : kKK (pl, z) ∈ kvs.map (·.1)
        · obtain ⟨d, h1, h2⟩ := valD_get y
          obtain ⟨v, h3⟩ := hi _ h2
          have h3 : d = .int v := h3
          exact ⟨v, by rw [h1, h3]; rfl⟩
        · refine ⟨0, ?_⟩
          cases h : valD kvs (kKK (pl, z)) with
          | none => rfl
          | some d => exact absurd ((valD_iff kvs (kKK (pl, z))).mp (by rw [h]; rfl)) y
      have hlen := putD_len kvs (kKK (pl, z)) (.int (v + 1))
      refine tr_dputT (n := (pl, z)) rfl (by omega) (ev_opD ((ev_dget2T (n := (pl, z)) (dk_mineT rfl) (ev_tup2 (ev_var (t := .im (nD pl)) rfl) (ev_var (t := .im (nD z)) rfl)) ev_int).eq (by rw [hv])) ev_int rd_i0) (ev_tup2 (ev_var (t := .im (nD pl)) rfl) (ev_var (t := .im (nD z)) rfl)) fun t et => ⟨_, et, ?_⟩
      refine tr_asgD (by show 3 < 6; decide) (ev_var (t := .im (nD z)) rfl) (tr_next fun σ H S => ⟨_, ⟨_, z, _, putD_ints hi, by omega, rfl⟩, S⟩)
    · rintro s ⟨kvs, pl, t5, hi, hk, rfl⟩
      exact tr_next fun σ H S => ⟨_, ⟨kvs, _, _, _, _, hi, by omega, rfl⟩, S⟩
  · rintro s ⟨kvs, t2, t3, t4, t5, hi, hk, rfl⟩
    exact k _ ⟨kvs, t2, t3, t4, t5, hi, rfl⟩
section
variable {P : Program} {w : World} {K : PySem.W.Frag} {mg : Str → Option Value} {base : Heap}
abbrev s__law_counts : Stmt := topS 46
abbrev N__law_counts : List Str := ["_law_trains_here", "_law_found", "_law_name", "_law_place", "_law_rest", "_law_station"]
theorem sc__law_counts : FnScope N__law_counts ["_law_trains_here"] (defScope s__law_counts) := ⟨rfl, rfl, rfl, by decide +kernel, rfl, by decide +kernel, by decide +kernel⟩
theorem bd__law_counts (B : Bl mg) : Bod P w K mg base N__law_counts "_law_counts" s__law_counts 0 sp__law_counts := fun f cdv A outer s H vs Q E hr h => by
  have hu := hu_of hr
  rcases h with h | h
  · obtain ⟨x, ts, Φ, ⟨T, rfl, hl, ht, rfl⟩, Tk, hh, q⟩ := h
    refine ⟨_, (pss_cons (ps_set (i := 1) sc__law_counts.nd rfl (Or.inl rfl) pe_dnewT)
    (pss_cons (ps_for PassesOwn.never rfl (pi_tup (pv 0)) (pg_tup rfl (pgs_cons (pg_name (i := 2) sc__law_counts.nd rfl (Or.inl rfl)) (pgs_cons (pg_name (i := 3) sc__law_counts.nd rfl (Or.inl rfl)) (pgs_cons (pg_name (i := 4) sc__law_counts.nd rfl (Or.inl rfl)) pgs_nil))))
      (pss_cons (ps_for PassesOwn.never rfl (pi_tup (pv 4)) (pg_name (i := 5) sc__law_counts.nd rfl (Or.inl rfl))
        (pss_cons (ps_dput hu (pv 1) (pe_tup (pa_cons (pv 3) (pa_cons (pv 5) pa_nil))) (pe_op op_add (pe_dget2 hu (pv 1) (pe_tup (pa_cons (pv 3) (pa_cons (pv 5) pa_nil))) pe_int (M2.mk rfl rfl rfl rfl)) pe_int) rfl)
        (pss_cons (ps_set (i := 3) sc__law_counts.nd rfl (Or.inl rfl) (pv 5))
        pss_nil)))
      pss_nil))
    (pss_cons (ps_ret (pv 1))
    pss_nil))), ?_⟩
    refine start_F (N := N__law_counts) Tk hh ?_
    refine tr_asgM (by show 1 < 6; decide) em_newT fun p m e => ?_
    subst e
    refine tr_counts (T := T) (srcT (ev_var rfl)) hl ht ?_
    rintro s ⟨kvs, t2, t3, t4, t5, hi, rfl⟩
    exact tr_frz (i := 1) rfl (tr_retR (ret_F q) (ev_var (t := .dT kvs) rfl) fun t et => ⟨kvs, et, hi⟩)
  · obtain ⟨x, ts, Φ, ⟨T, rfl, hl, ht, rfl⟩, Tk, hh, q⟩ := h
    refine ⟨_, (pss_cons (ps_set (i := 1) sc__law_counts.nd rfl (Or.inl rfl) pe_dnewT)
    (pss_cons (ps_for PassesOwn.never rfl (pi_list (pv 0)) (pg_tup rfl (pgs_cons (pg_name (i := 2) sc__law_counts.nd rfl (Or.inl rfl)) (pgs_cons (pg_name (i := 3) sc__law_counts.nd rfl (Or.inl rfl)) (pgs_cons (pg_name (i := 4) sc__law_counts.nd rfl (Or.inl rfl)) pgs_nil))))
      (pss_cons (ps_for PassesOwn.never rfl (pi_tup (pv 4)) (pg_name (i := 5) sc__law_counts.nd rfl (Or.inl rfl))
        (pss_cons (ps_dput hu (pv 1) (pe_tup (pa_cons (pv 3) (pa_cons (pv 5) pa_nil))) (pe_op op_add (pe_dget2 hu (pv 1) (pe_tup (pa_cons (pv 3) (pa_cons (pv 5) pa_nil))) pe_int (M2.mk rfl rfl rfl rfl)) pe_int) rfl)
        (pss_cons (ps_set (i := 3) sc__law_counts.nd rfl (Or.inl rfl) (pv 5))
        pss_nil)))
      pss_nil))
    (pss_cons (ps_ret (pv 1))
    pss_nil))), ?_⟩
    refine start_F (N := N__law_counts) Tk hh ?_
    refine tr_asgM (by show 1 < 6; decide) em_newT fun p m e => ?_
    subst e
    refine tr_counts (T := T) (srcL (ev_var rfl)) hl ht ?_
    rintro s ⟨kvs, t2, t3, t4, t5, hi, rfl⟩
    exact tr_frz (i := 1) rfl (tr_retR (ret_F q) (ev_var (t := .dT kvs) rfl) fun t et => ⟨kvs, et, hi⟩)
abbrev s__law_trains : Stmt := topS 44
abbrev N__law_trains : List Str := ["_law_bag_here", "_law_line_here", "_law_many", "_law_stops", "_law_near_here", "_law_found", "_law_name", "_law_place"]
theorem sc__law_trains : FnScope N__law_trains ["_law_bag_here", "_law_line_here", "_law_many", "_law_stops"] (defScope s__law_trains) := ⟨rfl, rfl, rfl, by decide +kernel, rfl, by decide +kernel, by decide +kernel⟩
theorem bd__law_trains (B : Bl mg) (c__law_names : Cal P w K mg base 4 "_law_names" sp__law_names []) (c__law_near : Cal P w K mg base 1 "_law_near" sp__law_near []) (c__law_some : Cal P w K mg base 2 "_law_some" sp__law_some []) (c__law_walk : Cal P w K mg base 3 "_law_walk" sp__law_walk []) (c__law_take : Cal P w K mg base 1 "_law_take" sp__law_take []) : Bod P w K mg base N__law_trains "_law_trains" s__law_trains 4 sp__law_trains := fun f cdv A outer s H vs Q E hr h => by
  have hu := hu_of hr
  obtain ⟨b, c, x, us, ts, Φ, rfl, Bg, ⟨L, n, st, rfl, O, hn, hst, rfl⟩, T, hh, q⟩ := h
  refine ⟨_, (pss_cons (ps_par (i := 4) (j := 5) rfl sc__law_trains.nd rfl rfl (by decide) rfl rfl (pa_cons (pe_c c__law_near hr (by decide) (by rfl) (pa_cons (pv 1) pa_nil)) (pa_cons (pe_lst pa_nil) pa_nil)) (by rfl))
    (pss_cons (ps_for PassesOwn.never rfl (pi_list (pe_c c__law_names hr (by decide) (by rfl) (pa_cons (pv 0) (pa_cons (pv 2) pa_nil)))) (pg_name (i := 6) sc__law_trains.nd rfl (Or.inl rfl))
      (pss_cons (ps_set (i := 7) sc__law_trains.nd rfl (Or.inl rfl) (pe_c c__law_some hr (by decide) (by rfl) (pa_cons (pv 0) (pa_cons (pe_callTy call_list_of (by rfl) B.m_list (by decide +kernel) (pa_cons (pe_ix ix_tup (pv 1) pe_int (fun _ _ => rfl)) pa_nil)) pa_nil))))
      (pss_cons (ps_expr (pe_bm PySem.F.plainAttrs_list PySem.F.slot_list_append PySem.F.type_list_append mt_append (pv 5) (pa_cons (pe_tup (pa_cons (pv 6) (pa_cons (pv 7) (pa_cons (pe_c c__law_walk hr (by decide) (by rfl) (pa_cons (pv 0) (pa_cons (pv 4) (pa_cons (pv 7) (pa_cons (pe_c c__law_take hr (by decide) (by rfl) (pa_cons (pv 0) (pa_cons (pe_op op_add (pv 3) pe_int) pa_nil))) pa_nil))))) pa_nil)))) pa_nil)))
      pss_nil)))
    (pss_cons (ps_ret (pe_callTy call_tuple_of (by rfl) B.m_tuple (by decide +kernel) (pa_cons (pe_callB (cr_sortD hr.units1) (by rfl) B.m_sorted (by decide +kernel) (pa_cons (pv 5) pa_nil)) pa_nil)))
    pss_nil))), ?_⟩
  refine start_B (N := N__law_trains) Bg T hh ?_
  have R := ret_B q
  refine tr_par (by show 4 < 8; decide) (by show 5 < 8; decide) (am_consD (Φ := fun t => ∃ kvs, t = .dK kvs ∧ NearOk L kvs) (ev_callD (ts := [.im (lD L)]) (ea_cons (ev_var rfl) ea_nil) ⟨L, rfl, O, rfl⟩) (am_consM em_lst0 fun p m e => am_nil)) fun ts l ⟨t1, r1, e1, ⟨kvs, e2, N⟩, p, m, r2, l2, e3, e4, e5, e6, e7⟩ => ?_
  subst e7 e6 e5 e4 e3 e2 e1
  refine ⟨_, _, rfl, ?_⟩
  refine tr_for (srcP_list (Ψ := fun m ty => ∃ ns : List Nm, m = n ∧ ns.Nodup ∧ ns.length = n ∧ ∀ i a, ns[i]? = some a → ty i = .im (nD a)) (ev_drawD rfl (ev_var rfl) (ea_cons (ev_var rfl) ea_nil) ⟨n, rfl, hn, rfl⟩) ?_)
    (fun ty i s => ∃ (T : List Trn) (t6 t7 : Ty), T.length = i ∧ (∀ u ∈ T, TrnOk L u ∧ u.2.2.length ≤ st) ∧ (∀ (j : Nat) (u : Trn), T[j]? = some u → ty j = .im (nD u.1)) ∧ s = ⟨[.rf b, .im (lD L), .im (.int n), .im (.int st), .dK kvs, .rf p, t6, t7], [(p, .lst (T.map tD))], some (b, c)⟩)
    (fun _ _ _ => ⟨[], .any, .any, rfl, (fun u m => nomatch m), fun j u e => by simp at e, rfl⟩) (fun _ _ _ ⟨_, _, _, _, _, _, e⟩ => by subst e; rfl) ?_ ?_
  · rintro t ⟨ns, h1, h2, rfl⟩
    exact ⟨_, rfl, ns, by rw [List.length_map, h2], h1, h2, fun i a h => congrArg Ty.im (getD_map nD h)⟩
  · rintro m ty ⟨ns, rfl, hnd, hnl, hty⟩ H1 Bs i s hi ⟨T, t6, t7, hTl, hT, hTy, rfl⟩
    have hni : i < ns.length := by omega
    have hna : ns[i]? = some ns[i] := List.getElem?_eq_getElem hni
    generalize ns[i] = na at hna
    rw [hty i na hna]
    refine ⟨_, _, bd_name (by show 6 < 8; decide), ?_⟩
    refine tr_asg (Φ := fun t => ∃ a ∈ L.1, t = .im (nD a)) (by show 7 < 8; decide) (ev_someL (ds := L.1.map nD) rfl (ev_var rfl) (ev_lstT (ev_ixT (ev_var (t := .im (lD L)) rfl))) (fun z => O.ne (List.map_eq_nil_iff.mp z)) (by rw [List.length_map]; have := O.sn; omega) ?_) ?_
    · intro d hd
      obtain ⟨a, ha, rfl⟩ := List.mem_map.mp hd
      exact ⟨a, ha, rfl⟩
    rintro t ⟨a, ha, rfl⟩
    refine tr_app rfl (by rw [List.length_map]; omega) (ev_tupP (Φ := fun t => ∃ w : List Nm, t = .im (tD (na, a, w)) ∧ w.length ≤ st ∧ Goes L a w) (ea_consP (Φ := dt (.im (nD na))) (ev_var rfl) (ea_consP (Φ := dt (.im (nD a))) (ev_var rfl) (ea_consP (Φ := fun t => ∃ w : List Nm, t = .im (sD w) ∧ w.length ≤ st ∧ Goes L a w) (ev_draw (Ψ := fun ts => ∃ v : Nat, ts = [.dK kvs, .im (nD a), .im (.int v)] ∧ v ≤ st) rfl (ev_var rfl) ((ea_consP (Φ := dt (.dK kvs)) (ev_var rfl) (ea_consP (Φ := dt (.im (nD a))) (ev_var rfl) (ea_consP (Φ := fun t => ∃ v : Nat, t = .im (.int v) ∧ v ≤ st) ((ev_take (n := st + 1) rfl (ev_var rfl) (ev_opD (ev_var rfl) ev_int rd_i0) (by omega) (by omega)).imp fun t ⟨v, e, hv⟩ => ⟨v, e, by omega⟩) ea_nil))).imp ?_) ?_) ea_nil))) ?_) ?_
    · rintro ts ⟨t1, r1, rfl, rfl, t2, r2, rfl, rfl, t3, r3, rfl, ⟨v, rfl, hv⟩, rfl⟩
      exact ⟨v, rfl, hv⟩
    · rintro ts ⟨v, rfl, hv⟩
      exact ⟨_, ⟨L, kvs, a, v, rfl, O, N, ha, by omega, rfl⟩, fun t ⟨w, e, h1, h2⟩ => ⟨w, e, by omega, h2⟩⟩
    · rintro ts ⟨t1, r1, rfl, rfl, t2, r2, rfl, rfl, t3, r3, rfl, ⟨w, rfl, hw1, hw2⟩, rfl⟩
      exact ⟨[_, _, _], rfl, by show 3 ≤ 100000; decide, w, rfl, hw1, hw2⟩
    rintro t ⟨w, rfl, hw1, hw2⟩
    refine ⟨_, rfl, tr_next fun σ H S => ⟨_, ⟨T ++ [(na, a, w)], _, _, by rw [List.length_append, List.length_singleton, hTl], fun u hu => ?_, fun j u hj => ?_, rfl⟩, by rw [List.map_append]; exact S⟩⟩
    · rcases List.mem_append.mp hu with m | m
      · exact hT u m
      · rw [List.mem_singleton.mp m]
        exact ⟨⟨ha, hw2⟩, hw1⟩
    · by_cases hjl : j < T.length
      · rw [List.getElem?_append_left hjl] at hj
        exact hTy j u hj
      · rw [List.getElem?_append_right (by omega)] at hj
        have hj1 := (List.getElem?_eq_some_iff.mp hj).1
        have hj1 : j - T.length < 1 := hj1
        have hj0 : j - T.length = 0 := by omega
        rw [hj0] at hj
        have hj : _ = u := Option.some.inj hj
        subst hj
        have hji : j = i := by omega
        subst hji
        exact hty j na hna
  · rintro m ty ⟨ns, rfl, hnd, hnl, hty⟩ s ⟨T, t6, t7, hTl, hT, hTy, rfl⟩
    have hnm : T.map (·.1) = ns := by
      apply List.ext_getElem?
      intro j
      rw [List.getElem?_map]
      cases e : T[j]? with
      | none =>
        have h1 := List.getElem?_eq_none_iff.mp e
        exact (List.getElem?_eq_none (by omega)).symm
      | some u =>
        have h1 := (List.getElem?_eq_some_iff.mp e).1
        have h2 : ns[j]? = some (ns[j]'(by omega)) := List.getElem?_eq_getElem _
        have h3 := hTy j u e
        rw [hty j _ h2] at h3
        injection h3 with h3
        rw [h2, encS.inj h3]
        rfl
    have hp := List.mergeSort_perm T (leD tD)
    refine tr_frz (i := 5) rfl (tr_retR R (ev_tupL (ev_sort srtT encT (as := T) (ev_var rfl) (by omega))) fun t e => ⟨_, e, ?_, ?_, fun u hu => hT u (hp.mem_iff.mp hu)⟩)
    · refine ((hp.map (·.1)).nodup_iff).mpr ?_
      rw [hnm]
      exact hnd
    · rw [List.length_mergeSort, hTl]
end
end Sx
set_option Elab.async false
set_option linter.all false
set_option maxRecDepth 100000
set_option maxHeartbeats 4000000
namespace Sx
open PySem PySem.Spec PyProof.Rows L2
open C8 (Cal pe_c)
/-! ### drawn standings -/
structure StnG (L : Lin) (Z : Stn) (k : Nat) : Prop where
  st : StfOk L Z.1
  nm : (Z.2.map (·.1)).Nodup
  nl : Z.2.length ≤ 11
  tr : ∀ u ∈ Z.2, TrnOk L u ∧ u.2.2.length ≤ k
theorem StfOk.nd {L : Lin} (O : LinOk L) {F : List Stf} (h : StfOk L F) : (F.map (·.1)).Nodup := by
  rw [h.ky]
  unfold freeK
  exact List.Nodup.sublist ((List.filter_sublist).map _) O.kd
theorem StfOk.len {L : Lin} (O : LinOk L) {F : List Stf} (h : StfOk L F) : F.length ≤ 100 := by
  have := congrArg List.length h.ky
  rw [List.length_map] at this
  rw [this]
  unfold freeK
  rw [List.length_map]
  exact Nat.le_trans (List.length_filter_le _ _) O.sl
theorem staffOf_in {Z : Stn} {k : Key2} (h : k ∈ Z.1.map (·.1)) : ∃ a, staffOf Z k = some a := by
  obtain ⟨f, hf, e⟩ := List.mem_map.mp h
  unfold staffOf
  cases z : Z.1.find? fun f => decide (f.1 = k) with
  | none =>
    have := List.find?_eq_none.mp z f hf
    exact absurd (decide_eq_true e) this
  | some g => exact ⟨g.2, rfl⟩
theorem StnG.ok {L : Lin} {Z : Stn} {k : Nat} (O : LinOk L) (G : StnG L Z k) (hk : k ≤ 60) : StnOk L Z where
  nm := G.nm
  nl := Nat.le_trans G.nl (by decide)
  zl := G.st.len O
  ps := fun t ht => (G.tr t ht).1.ps O (Nat.le_trans (G.tr t ht).2 hk)
  sf := fun k s h => by
    unfold staffOf at h
    obtain ⟨f, h1, h2⟩ := Option.map_eq_some_iff.mp h
    rw [← h2]
    exact G.st.st f (List.mem_of_find?_eq_some h1)
  sx := fun q s hq hs hn => by
    refine staffOf_in ?_
    rw [G.st.ky]
    unfold sortOf at hs
    obtain ⟨c, h1, h2⟩ := Option.map_eq_some_iff.mp hs
    have h3 := List.find?_some h1
    have h4 := List.mem_of_find?_eq_some h1
    have e : (c.1, c.2.1) = keyOf q.1 q.2 := of_decide_eq_true h3
    have hq : keyOf q.1 q.2 = q := hq
    rw [hq] at e
    refine List.mem_map.mpr ⟨c, List.mem_filter.mpr ⟨h4, ?_⟩, e⟩
    rw [h2, decide_eq_false hn]
    rfl
def isPair (L : Lin) (Z : Stn) (v : V) (H : Hp) : Prop := ∃ (a : Addr) (vl vz : V), v = .ref a ∧ H a = some (.tup [vl, vz]) ∧ Dq H vl (lD L) ∧ isStn Z vz H
theorem isPair.mono {L : Lin} {Z : Stn} {v : V} {H H' : Hp} (e : Same H H') (h : isPair L Z v H) : isPair L Z v H' := by
  obtain ⟨a, vl, vz, h1, h2, h3, h4⟩ := h
  exact ⟨a, vl, vz, h1, e _ _ h2, dp_mono e h3, h4.mono e⟩
abbrev pairTy (L : Lin) (Z : Stn) : Ty := .pr (isPair L Z)
theorem intsD.get {kvs : List (List Key × PyData)} (hi : intsD kvs) (k : List Key) : ∃ v : Int, (valD kvs k).getD (.int 0) = .int v := by
  by_cases y : k ∈ kvs.map (·.1)
  · obtain ⟨d, h1, h2⟩ := valD_get y
    obtain ⟨v, h3⟩ := hi _ h2
    have h3 : d = .int v := h3
    exact ⟨v, by rw [h1, h3]; rfl⟩
  · refine ⟨0, ?_⟩
    cases h : valD kvs k with
    | none => rfl
    | some d => exact absurd ((valD_iff kvs k).mp (by rw [h]; rfl)) y
section
variable {H0 : Hp} {x : List Addr} {ss : SS} {te tf td ty : TE} {K : PySem.W.Frag}
/-- (line, standing) -/
theorem ev_pairP {L : Lin} {Φ : Ty → Prop} {Ψ : Ty → Prop} (h1 : EvD H0 x ss te (.im (lD L))) (h2 : Ev H0 x ss tf Ψ) (k : ∀ t, Ψ t → ∃ Z, t = stnTy Z ∧ Φ (pairTy L Z)) : Ev H0 x ss (tTup (tCons te (tCons tf tNil))) Φ := fun σ H S Q q =>
  h1 σ H S _ fun t1 v1 H1 p1 S1 e1 r1 => h2 σ H1 S1 _ fun t2 v2 H2 p2 S2 e2 r2 => by
    subst p1
    obtain ⟨Z, rfl, hΦ⟩ := k t2 p2
    refine ⟨by show 2 ≤ sizeLine; decide, fun p hp => ?_⟩
    have e3 := same_new (o := .tup [v1, v2]) hp
    have h3 : isPair L Z (.ref p) (hid (ss.M x) (upd H2 p (.tup [v1, v2]))) := ⟨p, v1, v2, rfl, hid_new S2.trk hp, dp_mono (hid_mono e3) (dp_mono (Fr.m e2) r1), (stn_at r2).mono (hid_mono e3)⟩
    exact q _ _ _ hΦ (S2.pure e3) ((e1.trans e2).trans (hid_mono e3)) (fun H' e => h3.mono e)
theorem ev_stnP {Φ Ψ : Ty → Prop} {T : List Trn} (h1 : Ev H0 x ss te Ψ) (h2 : EvD H0 x ss tf (.im (.tuple (T.map tD)))) (k : ∀ t, Ψ t → ∃ F, t = fzTy F ∧ Φ (stnTy (F, T))) : Ev H0 x ss (tTup (tCons te (tCons tf tNil))) Φ := fun σ H S Q q =>
  h1 σ H S _ fun t1 v1 H1 p1 S1 e1 r1 => h2 σ H1 S1 _ fun t2 v2 H2 p2 S2 e2 r2 => by
    subst p2
    obtain ⟨F, rfl, hΦ⟩ := k t1 p1
    refine ⟨by show 2 ≤ sizeLine; decide, fun p hp => ?_⟩
    have e3 := same_new (o := .tup [v1, v2]) hp
    refine q _ _ _ hΦ (S2.pure e3) ((e1.trans e2).trans (hid_mono e3)) (stn_of ⟨p, v1, v2, rfl, hid_new S2.trk hp, ?_, dp_mono (hid_mono e3) r2⟩)
    exact ((fz_at r1).mono (Fr.m e2)).mono (hid_mono e3)
theorem evI_get {kvs : List (List Key × PyData)} {n : Key2} (hi : intsD kvs) (h : DkE H0 x ss td HO.dT kvs) (hy : EvD H0 x ss ty (.im (kD n))) : EvI H0 x ss (tDGet2 td ty (tC (.int 0))) (fun _ => True) := by
  obtain ⟨v, hv⟩ := hi.get (kKK n)
  exact (ev_dget2T (n := n) h hy ev_int).imp fun t e => ⟨v, by rw [e, hv], trivial⟩
end
/-! ### promises -/
abbrev sp__law_evened : Sp := spB fun ts Φ => ∃ (L : Lin) (T : List Trn), ts = [.im (lD L), .im (.tuple (T.map tD))] ∧ LinOk L ∧ 1 ≤ T.length ∧ T.length ≤ 10 ∧ (∀ u ∈ T, TrnOk L u ∧ u.2.2.length ≤ 40) ∧ Φ = fun t => ∃ T' : List Trn, t = .im (.tuple (T'.map tD)) ∧ T'.map (·.1) = T.map (·.1) ∧ ∀ u ∈ T', TrnOk L u ∧ u.2.2.length ≤ 40
abbrev sp__law_standing : Sp := spB fun ts Φ => ∃ (L : Lin) (n st : Nat), ts = [.im (lD L), .im (.int n), .im (.int st)] ∧ LinOk L ∧ 1 ≤ n ∧ n ≤ 10 ∧ st ≤ 9 ∧ Φ = fun t => ∃ Z : Stn, t = stnTy Z ∧ StnG L Z 40 ∧ Z.2.length = n
def isDrawn : Ty → Prop := fun t => ∃ (L : Lin) (Z : Stn), t = pairTy L Z ∧ LinOk L ∧ StnG L Z 40 ∧ 1 ≤ Z.2.length ∧ Z.2.length ≤ 5
abbrev sp__law_small : Sp := spB fun ts Φ => ts = [] ∧ Φ = isDrawn
abbrev sp__law_middle : Sp := spB fun ts Φ => ts = [] ∧ Φ = isDrawn
section
variable {P : Program} {w : World} {K : PySem.W.Frag} {mg : Str → Option Value} {base : Heap}
abbrev s__law_staffs : Stmt := topS 45
abbrev N__law_staffs : List Str := ["_law_bag_here", "_law_line_here", "_law_trains_here", "_law_counts_here", "_law_found", "_law_one", "_law_other", "_law_sort", "_law_there", "_law_back", "_law_best"]
theorem sc__law_staffs : FnScope N__law_staffs ["_law_bag_here", "_law_line_here", "_law_trains_here"] (defScope s__law_staffs) := ⟨rfl, rfl, rfl, by decide +kernel, rfl, by decide +kernel, by decide +kernel⟩
theorem bd__law_staffs (B : Bl mg) (c__law_counts : Cal P w K mg base 1 "_law_counts" sp__law_counts []) (c__law_some : Cal P w K mg base 2 "_law_some" sp__law_some []) (c__law_take : Cal P w K mg base 1 "_law_take" sp__law_take []) : Bod P w K mg base N__law_staffs "_law_staffs" s__law_staffs 2 sp__law_staffs := fun f cdv A outer s H vs Q E hr h => by
  have hu := hu_of hr
  obtain ⟨b, c, x, us, ts, Φ, rfl, Bg, ⟨L, T, rfl, O, hT, hTl, rfl⟩, Tk, hh, q⟩ := h
  refine ⟨_, (pss_cons (ps_par (i := 3) (j := 4) rfl sc__law_staffs.nd rfl rfl (by decide) rfl rfl (pa_cons (pe_c c__law_counts hr (by decide) (by rfl) (pa_cons (pv 2) pa_nil)) (pa_cons (pe_lst pa_nil) pa_nil)) (by rfl))
    (pss_cons (ps_for PassesOwn.never rfl (pi_tup (pe_ix ix_tup (pv 1) pe_int (fun _ _ => rfl))) (pg_tup rfl (pgs_cons (pg_name (i := 5) sc__law_staffs.nd rfl (Or.inl rfl)) (pgs_cons (pg_name (i := 6) sc__law_staffs.nd rfl (Or.inl rfl)) (pgs_cons (pg_name (i := 7) sc__law_staffs.nd rfl (Or.inl rfl)) pgs_nil))))
      (pss_cons (ps_if (pt_cmpR (op_neD hr.units) (pv 7) pe_str (nomark _))
        (pss_cons (ps_par (i := 8) (j := 9) rfl sc__law_staffs.nd rfl rfl (by decide) rfl rfl (pa_cons (pe_dget2 hu (pv 3) (pe_tup (pa_cons (pv 5) (pa_cons (pv 6) pa_nil))) pe_int (M2.mk rfl rfl rfl rfl)) (pa_cons (pe_dget2 hu (pv 3) (pe_tup (pa_cons (pv 6) (pa_cons (pv 5) pa_nil))) pe_int (M2.mk rfl rfl rfl rfl)) pa_nil)) (by rfl))
        (pss_cons (ps_set (i := 10) sc__law_staffs.nd rfl (Or.inl rfl) (pe_ifExp (pt_cmpR op_gt (pv 8) (pv 9) (nomark _)) (pv 5) (pe_ifExp (pt_cmpR op_gt (pv 9) (pv 8) (nomark _)) (pv 6) (pe_c c__law_some hr (by decide) (by rfl) (pa_cons (pv 0) (pa_cons (pe_lst (pa_cons (pv 5) (pa_cons (pv 6) pa_nil))) pa_nil))))))
        (pss_cons (ps_expr (pe_bm PySem.F.plainAttrs_list PySem.F.slot_list_append PySem.F.type_list_append mt_append (pv 4) (pa_cons (pe_tup (pa_cons (pe_tup (pa_cons (pv 5) (pa_cons (pv 6) pa_nil))) (pa_cons (pe_ifExp (pt_cmpR op_gt (pe_c c__law_take hr (by decide) (by rfl) (pa_cons (pv 0) (pa_cons pe_int pa_nil))) pe_int (nomark _)) (pv 10) (pe_c c__law_some hr (by decide) (by rfl) (pa_cons (pv 0) (pa_cons (pe_lst (pa_cons (pv 5) (pa_cons (pv 6) pa_nil))) pa_nil)))) pa_nil))) pa_nil)))
        pss_nil)))
        pss_nil)
      pss_nil))
    (pss_cons (ps_ret (pe_callTy cr_tupZ (by rfl) B.m_tuple (by decide +kernel) (pa_cons (pv 4) pa_nil)))
    pss_nil))), ?_⟩
  refine start_B (N := N__law_staffs) Bg Tk hh ?_
  have R := ret_B q
  refine tr_par (by show 3 < 11; decide) (by show 4 < 11; decide) (am_consD (Φ := fun t => ∃ kvs, t = .dT kvs ∧ intsD kvs) (ev_callO (S := fun ts Φ => ∃ T : List Trn, ts = [.im (.tuple (T.map tD))] ∧ T.length ≤ 20 ∧ (∀ t ∈ T, t.2.2.length ≤ 60) ∧ Φ = fun t => ∃ kvs, t = .dT kvs ∧ intsD kvs) (fun vs H Q z => .inl z) (ea_cons (ev_var rfl) ea_nil) ⟨T, rfl, hT, hTl, rfl⟩) (am_consM em_lst0 fun p m e => am_nil)) fun ts l ⟨t1, r1, e1, ⟨kvs, e2, hi⟩, p, m, r2, l2, e3, e4, e5, e6, e7⟩ => ?_
  subst e7 e6 e5 e4 e3 e2 e1
  refine ⟨_, _, rfl, ?_⟩
  refine tr_forE (as := L.2) (f := cD) (srcT (ev_ixT (ev_var (t := .im (lD L)) rfl))) (fun i s => ∃ (F : List Stf) (t5 t6 t7 t8 t9 t10 : Ty), F.map (·.1) = ((L.2.take i).filter fun s => !decide (s.2.2 = freeN)).map (fun s => (s.1, s.2.1)) ∧ (∀ f ∈ F, f.2 ∈ L.1) ∧ s = ⟨[.rf b, .im (lD L), .im (.tuple (T.map tD)), .dT kvs, .rf p, t5, t6, t7, t8, t9, t10], [(p, .lst (F.map fD))], some (b, c)⟩)
    ⟨[], .any, .any, .any, .any, .any, .any, rfl, (fun f m => nomatch m), rfl⟩ (fun _ _ ⟨_, _, _, _, _, _, _, _, _, e⟩ => by subst e; rfl) ?_ ?_
  · rintro H1 Bs i s1 s he ⟨F, t5, t6, t7, t8, t9, t10, hk, hf, rfl⟩
    have hend := O.en s1 (List.mem_of_getElem? he)
    have hFl : F.length ≤ 100 := by
      have := congrArg List.length hk
      rw [List.length_map, List.length_map] at this
      rw [this]
      exact Nat.le_trans (List.length_filter_le _ _) (Nat.le_trans (List.length_take_le' _ _) O.sl)
    refine ⟨_, _, bd_tup (bds_cons (bd_name (by show 5 < 11; decide)) (bds_cons (bd_name (by show 6 < 11; decide)) (bds_cons (bd_name (by show 7 < 11; decide)) bds_nil))), ?_⟩
    refine tr_ifD (et_test (ev_neE encS (a := s1.2.2) (b := freeN) (ev_var rfl) ev_str)) (fun e => ?_) (fun e => ?_)
    · obtain ⟨v1, hv1⟩ := hi.get (kKK (s1.1, s1.2.1))
      obtain ⟨v2, hv2⟩ := hi.get (kKK (s1.2.1, s1.1))
      refine tr_parD (by show 8 < 11; decide) (by show 9 < 11; decide) ((ev_dget2T (n := (s1.1, s1.2.1)) (dk_dataT (ev_var rfl)) (ev_tup2 (ev_var (t := .im (nD s1.1)) rfl) (ev_var (t := .im (nD s1.2.1)) rfl)) ev_int).eq (by rw [hv1])) ((ev_dget2T (n := (s1.2.1, s1.1)) (dk_dataT (ev_var rfl)) (ev_tup2 (ev_var (t := .im (nD s1.2.1)) rfl) (ev_var (t := .im (nD s1.1)) rfl)) ev_int).eq (by rw [hv2])) ?_
      have two : ∀ {ss : SS} {te ta : TE} (hb : ss.b = some (b, c)), EvD H1 x ss te (.rf b) → EvD H1 x ss ta (.im (.list [nD s1.1, nD s1.2.1])) → Ev H1 x ss (tCall sp__law_some [] C8.E0 (tCons te (tCons ta tNil))) (fun t => ∃ z, t = .im (nD z) ∧ z ∈ L.1) := fun hb h1 h2 => ev_someL (ds := [nD s1.1, nD s1.2.1]) hb h1 h2 (by simp) (by show 2 ≤ 100000; decide) fun d hd => by
        rcases List.mem_cons.mp hd with rfl | hd
        · exact ⟨s1.1, rfl, hend.1⟩
        · rw [List.mem_singleton.mp hd]
          exact ⟨s1.2.1, rfl, hend.2⟩
      refine tr_asg (Φ := fun t => ∃ z, t = .im (nD z) ∧ z ∈ L.1) (by show 10 < 11; decide) (ev_if (Ψ := fun _ => True) (etI (evI_var rfl) (evI_var rfl) fun _ _ _ _ => trivial) (fun _ => (ev_var rfl).imp fun t e => ⟨s1.1, e, hend.1⟩) fun _ => ev_if (Ψ := fun _ => True) (etI (evI_var rfl) (evI_var rfl) fun _ _ _ _ => trivial) (fun _ => (ev_var rfl).imp fun t e => ⟨s1.2.1, e, hend.2⟩) fun _ => two rfl (ev_var rfl) (ev_lst2 (ev_var rfl) (ev_var rfl))) ?_
      rintro t ⟨best, rfl, hbest⟩
      refine tr_app rfl (by rw [List.length_map]; omega) (ev_tupP (Φ := fun t => ∃ z, t = .im (fD ((s1.1, s1.2.1), z)) ∧ z ∈ L.1) (ea_consP (Φ := dt (.im (kD (s1.1, s1.2.1)))) (ev_tup2 (ev_var (t := .im (nD s1.1)) rfl) (ev_var (t := .im (nD s1.2.1)) rfl)) (ea_consP (Φ := fun t => ∃ z, t = .im (nD z) ∧ z ∈ L.1) (ev_if (Ψ := fun _ => True) (etI (P1 := fun _ => True) ((ev_take (n := 8) rfl (ev_var rfl) ev_int (by omega) (by omega)).imp fun t ⟨v, e, hv⟩ => (⟨v, e, trivial⟩ : ∃ n : Int, t = .im (.int n) ∧ True)) evI_c fun _ _ _ _ => trivial) (fun _ => (ev_var rfl).imp fun t e => ⟨best, e, hbest⟩) fun _ => two rfl (ev_var rfl) (ev_lst2 (ev_var rfl) (ev_var rfl))) ea_nil)) ?_) ?_
      · rintro ts ⟨t1, r1, rfl, rfl, t2, r2, rfl, ⟨z, rfl, hz⟩, rfl⟩
        exact ⟨[_, _], rfl, by show 2 ≤ 100000; decide, z, rfl, hz⟩
      rintro t ⟨z, rfl, hz⟩
      refine ⟨_, rfl, tr_next fun σ H S => ⟨_, ⟨F ++ [((s1.1, s1.2.1), z)], _, _, _, _, _, _, ?_, fun f m => ?_, rfl⟩, by rw [List.map_append]; exact S⟩⟩
      · rw [take_next he, List.filter_append, List.map_append, List.map_append, hk]
        congr 1
        rw [List.filter_cons_of_pos]
        · rfl
        · exact e
      · rcases List.mem_append.mp m with m | m
        · exact hf f m
        · rw [List.mem_singleton.mp m]
          exact hz
    · refine tr_next fun σ H S => ⟨_, ⟨F, _, _, _, _, _, _, ?_, hf, rfl⟩, S⟩
      rw [take_next he, List.filter_append, List.map_append, hk, List.filter_cons_of_neg (by rw [e]; exact Bool.false_ne_true), List.filter_nil, List.map_nil, List.append_nil]
  · rintro s ⟨F, t5, t6, t7, t8, t9, t10, hk, hf, rfl⟩
    rw [List.take_length] at hk
    exact tr_frz (i := 4) rfl (tr_retR R (ev_tupZ (F := F) (ev_var rfl)) fun t e => ⟨F, e, hk, hf⟩)
abbrev s__law_standing : Stmt := topS 48
abbrev N__law_standing : List Str := ["_law_bag_here", "_law_line_here", "_law_many", "_law_stops", "_law_trains_here"]
theorem sc__law_standing : FnScope N__law_standing ["_law_bag_here", "_law_line_here", "_law_many", "_law_stops"] (defScope s__law_standing) := ⟨rfl, rfl, rfl, by decide +kernel, rfl, by decide +kernel, by decide +kernel⟩
theorem bd__law_standing (B : Bl mg) (c__law_trains : Cal P w K mg base 5 "_law_trains" sp__law_trains []) (c__law_evened : Cal P w K mg base 3 "_law_evened" sp__law_evened []) (c__law_staffs : Cal P w K mg base 3 "_law_staffs" sp__law_staffs []) (c__law_take : Cal P w K mg base 1 "_law_take" sp__law_take []) : Bod P w K mg base N__law_standing "_law_standing" s__law_standing 5 sp__law_standing := fun f cdv A outer s H vs Q E hr h => by
  have hu := hu_of hr
  obtain ⟨b, c, x, us, ts, Φ, rfl, Bg, ⟨L, n, st, rfl, O, h1, h2, h3, rfl⟩, Tk, hh, q⟩ := h
  refine ⟨_, (pss_cons (ps_set (i := 4) sc__law_standing.nd rfl (Or.inl rfl) (pe_c c__law_trains hr (by decide) (by rfl) (pa_cons (pv 0) (pa_cons (pv 1) (pa_cons (pv 2) (pa_cons (pv 3) pa_nil))))))
    (pss_cons (ps_if (PW.pt (pw_and (pt_cmpR (op_neD hr.units) (pv 4) (pe_tup pa_nil) (nomark _)) (pw_and1 (pt_cmpR op_gt (pe_c c__law_take hr (by decide) (by rfl) (pa_cons (pv 0) (pa_cons pe_int pa_nil))) pe_int (nomark _)))))
      (pss_cons (ps_set (i := 4) sc__law_standing.nd rfl (Or.inl rfl) (pe_c c__law_evened hr (by decide) (by rfl) (pa_cons (pv 0) (pa_cons (pv 1) (pa_cons (pv 4) pa_nil)))))
      pss_nil)
      pss_nil)
    (pss_cons (ps_ret (pe_tup (pa_cons (pe_c c__law_staffs hr (by decide) (by rfl) (pa_cons (pv 0) (pa_cons (pv 1) (pa_cons (pv 4) pa_nil)))) (pa_cons (pv 4) pa_nil))))
    pss_nil))), ?_⟩
  refine start_B (N := N__law_standing) Bg Tk hh ?_
  have R := ret_B q
  refine tr_asg (by show 4 < 5; decide) (ev_drawD rfl (ev_var rfl) (ea_cons (ev_var rfl) (ea_cons (ev_var rfl) (ea_cons (ev_var rfl) ea_nil))) ⟨L, n, st, rfl, O, h2, h3, rfl⟩) ?_
  rintro t ⟨T, rfl, hn, hl, hT⟩
  refine tr_ifJP (fun s => ∃ T : List Trn, (T.map (·.1)).Nodup ∧ T.length = n ∧ (∀ u ∈ T, TrnOk L u ∧ u.2.2.length ≤ 40) ∧ s = ⟨[.rf b, .im (lD L), .im (.int n), .im (.int st), .im (.tuple (T.map tD))], [], some (b, c)⟩) (Ψ := fun _ => True) (et_andP (Ψ1 := fun _ => True) ((et_test (ev_neE encT.tl (a := T) (b := []) (ev_var rfl) ev_tup0)).imp fun _ _ => trivial) (fun _ => etI (P1 := fun _ => True) ((ev_take (n := 3) rfl (ev_var rfl) ev_int (by omega) (by omega)).imp fun t ⟨v, e, hv⟩ => (⟨v, e, trivial⟩ : ∃ n : Int, t = .im (.int n) ∧ True)) evI_c fun _ _ _ _ => trivial) fun _ => trivial) (fun kk _ => ?_) (fun kk _ => kk _ ⟨T, hn, hl, fun u m => ⟨(hT u m).1, by have := (hT u m).2; omega⟩, rfl⟩) ?_
  · refine tr_asg (by show 4 < 5; decide) (ev_drawD rfl (ev_var rfl) (ea_cons (ev_var rfl) (ea_cons (ev_var rfl) ea_nil)) ⟨L, T, rfl, O, by omega, by omega, fun u m => ⟨(hT u m).1, by have := (hT u m).2; omega⟩, rfl⟩) ?_
    rintro t ⟨T', rfl, hn', hT'⟩
    refine kk _ ⟨T', by rw [hn']; exact hn, ?_, hT', rfl⟩
    have := congrArg List.length hn'
    rw [List.length_map, List.length_map] at this
    omega
  · rintro s ⟨T, hn, hl, hT, rfl⟩
    refine tr_retR R (ev_stnP (T := T) (ev_drawD rfl (ev_var rfl) (ea_cons (ev_var rfl) (ea_cons (ev_var rfl) ea_nil)) ⟨L, T, rfl, O, by omega, fun u m => by have := (hT u m).2; omega, rfl⟩) (ev_var rfl) (Φ := fun t => ∃ F, t = stnTy (F, T) ∧ StfOk L F) fun t ⟨F, e, hF⟩ => ⟨F, e, F, rfl, hF⟩) fun t ⟨F, e, hF⟩ => ⟨(F, T), e, ⟨hF, hn, by show T.length ≤ 11; omega, hT⟩, hl⟩
end
end Sx
set_option Elab.async false
set_option linter.all false
set_option maxRecDepth 100000
set_option maxHeartbeats 4000000
namespace Sx
open PySem PySem.Spec PyProof.Rows L2
open C8 (Cal pe_c)
abbrev stfN : Nm := ⟨"staff", by decide +kernel, by decide +kernel⟩
abbrev tckN : Nm := ⟨"ticket", by decide +kernel, by decide +kernel⟩
theorem dq_int {H : Hp} {v : V} {n : Int} (h : Dq H v (.int n)) : v = .int n := by
  cases h
  rfl
theorem getLast_lastOf (a : Nm) : ∀ {xs : List Nm}, xs ≠ [] → xs.getLast? = some (lastOf a xs)
  | [], h => absurd rfl h
  | [b], _ => rfl
  | b :: c :: xs, _ => by
    rw [List.getLast?_cons_cons]
    exact getLast_lastOf b (xs := c :: xs) (List.cons_ne_nil _ _)
section
variable {H0 H : Hp} {x : List Addr} {g : List Ty} {L : List (Addr × MO)} {b : Option (Addr × Addr)} {p : Addr} {ds : List PyData} {i : Nat} {te : TE} {ss : SS} {ta : TA} {K : PySem.W.Frag}
/-- a dict of numbers is seen beside a list of mine -/
theorem ev_frzN {Φ : Ty → Prop} (hi : g[i]? = some (.rf p)) (h : Ev H0 x ⟨g.set i (.im (.list ds)), L, b⟩ te Φ) (k : ∀ t, Φ t → ∃ kvs, t = .dT kvs ∧ intsD kvs) : Ev H0 x ⟨g, (p, .lst ds) :: L, b⟩ te Φ := fun σ H S Q q =>
  h σ H (S.frz hi) Q fun t v H' ht S' e r => by
    have S2 := S.step e S' rfl
    refine q t v H' ht S2 e ?_
    obtain ⟨kvs, rfl, hk⟩ := k t ht
    obtain ⟨a, vs, rfl, h1, h2⟩ := r
    obtain ⟨_, us, hp, _⟩ := S2.ls (p, .lst ds) List.mem_cons_self
    have hsub : ∀ {a : Addr} {o : HO}, hid ((⟨g.set i (.im (.list ds)), L, b⟩ : SS).M x) H' a = some o → a ≠ p → hid ((⟨g, (p, .lst ds) :: L, b⟩ : SS).M x) H' a = some o := fun {a o} h n => by
      obtain ⟨h3, h4⟩ := hid_some h
      rw [hid_out fun m => ?_]
      · exact h4
      · rcases List.mem_cons.mp m with m | m
        · exact n m
        · exact h3 m
    refine ⟨a, vs, rfl, hsub h1 fun z => ?_, ?_⟩
    · have h4 := (hid_some h1).2
      rw [z] at h4
      have hp : H' p = _ := hp
      rw [hp] at h4
      cases h4
    · have key : ∀ {vs : List (List Key × V)} {kvs : List (List Key × PyData)}, (∀ e ∈ kvs, ∃ n, e.2 = PyData.int n) → KvOk (hid ((⟨g.set i (.im (.list ds)), L, b⟩ : SS).M x) H') vs kvs → KvOk (hid ((⟨g, (p, .lst ds) :: L, b⟩ : SS).M x) H') vs kvs := by
        intro vs kvs
        induction vs generalizing kvs with
        | nil =>
          intro _ h
          cases kvs with
          | nil => trivial
          | cons _ _ => exact h.elim
        | cons v vs ih =>
          intro hk h
          cases kvs with
          | nil => exact h.elim
          | cons q kvs =>
            refine ⟨h.1, ?_, ih (fun e m => hk e (List.mem_cons_of_mem _ m)) h.2.2⟩
            obtain ⟨n, hn⟩ := hk q List.mem_cons_self
            have h3 := h.2.1
            rw [hn] at h3 ⊢
            rw [dq_int h3]
            exact .int n
      exact key hk h2
theorem ev_neg {n : Int} (h : EvD H0 x ss te (.im (.int n))) : EvD H0 x ss (tUn (rU fun i => .int (-i)) te) (.im (.int (-n))) := ev_un h fun t e => by
  subst e
  exact fun M a H T ha Q q => by
    cases ha
    exact ⟨n, rfl, q _ _ H rfl (Same.refl _) (.int _)⟩
/-- list(t): mine -/
theorem em_lstT (h : EvD H0 x ss te (.im (.tuple ds))) (hz : ds.length ≤ 100000) : EvM H0 x ss (tCB (rcLst K) (tCons te tNil)) (fun m => m = .lst ds) := fun σ H S Q q =>
  h σ H S _ fun t v H1 p S1 e r => by
    subst p
    have r : Dq _ v (.tuple ds) := r
    cases r with
    | tup r1 r2 =>
      rename_i a vs
      refine ⟨a, vs, rfl, .inr (.inl (.inl (hid_some r1).2)), fun p hp => ?_⟩
      obtain ⟨S2, e2⟩ := S1.mine (m := .lst []) (o := .lst []) hp fun M => ⟨[], upd_same, .nil⟩
      have S3 := (S2.chg (ss := ss) (m' := .lst ds) (o := .lst vs) ⟨vs, upd_same, dps_mono e2 r2⟩).1
      rw [upd_upd] at S3
      refine q p _ _ rfl ?_ S3 (e.trans (hid_mono (same_new hp)))
      cases z : H p with
      | none => rfl
      | some o =>
        by_cases hb : p ∈ ss.bm
        · obtain ⟨c, hc⟩ := bm_iff.mp hb
          obtain ⟨⟨_, s0, s1, s2, cs, e3, _⟩, _⟩ := S1.bg p c hc
          rw [e3] at hp
          cases hp
        · have h2 := e p o (by rw [hid_out hb]; exact z)
          rw [(hid_some h2).2] at hp
          cases hp
end
section
variable {P : Program} {w : World} {K : PySem.W.Frag} {mg : Str → Option Value} {base : Heap}
abbrev s__law_evened : Stmt := topS 47
abbrev N__law_evened : List Str := ["_law_bag_here", "_law_line_here", "_law_trains_here", "_law_near_here", "_law_turn", "_law_at", "_law_name", "_law_place", "_law_rest", "_law_last", "_law_counts_here", "_law_some_here", "_law_one"]
theorem sc__law_evened : FnScope N__law_evened ["_law_bag_here", "_law_line_here", "_law_trains_here"] (defScope s__law_evened) := ⟨rfl, rfl, rfl, by decide +kernel, rfl, by decide +kernel, by decide +kernel⟩
theorem bd__law_evened (B : Bl mg) (c__law_near : Cal P w K mg base 1 "_law_near" sp__law_near []) (c__law_take : Cal P w K mg base 1 "_law_take" sp__law_take []) (c__law_counts : Cal P w K mg base 1 "_law_counts" sp__law_counts []) (c__law_some : Cal P w K mg base 2 "_law_some" sp__law_some []) : Bod P w K mg base N__law_evened "_law_evened" s__law_evened 2 sp__law_evened := fun f cdv A outer s H vs Q E hr h => by
  have hu := hu_of hr
  obtain ⟨b, c, x, us, ts, Φ, rfl, Bg, ⟨L, T0, rfl, O, hT1, hT2, hT3, rfl⟩, Tk, hh, q⟩ := h
  refine ⟨_, (pss_cons (ps_par (i := 3) (j := 2) rfl sc__law_evened.nd rfl rfl (by decide) rfl rfl (pa_cons (pe_c c__law_near hr (by decide) (by rfl) (pa_cons (pv 1) pa_nil)) (pa_cons (pe_callTy call_list_of (by rfl) B.m_list (by decide +kernel) (pa_cons (pv 2) pa_nil)) pa_nil)) (by rfl))
    (pss_cons (ps_for PassesOwn.never rfl (pi_range1 (by rfl) B.m_range (pa_cons (pe_op op_mul pe_int (pe_callB call_len_seq (by rfl) B.m_len PySem.boot_len (pa_cons (pv 2) pa_nil))) pa_nil)) (pg_name (i := 4) sc__law_evened.nd rfl (Or.inl rfl))
      (pss_cons (ps_set (i := 5) sc__law_evened.nd rfl (Or.inl rfl) (pe_c c__law_take hr (by decide) (by rfl) (pa_cons (pv 0) (pa_cons (pe_callB call_len_seq (by rfl) B.m_len PySem.boot_len (pa_cons (pv 2) pa_nil)) pa_nil))))
      (pss_cons (ps_asg (pe_ix ix_list (pv 2) (pv 5) (fun _ _ => rfl)) (pg_tup rfl (pgs_cons (pg_name (i := 6) sc__law_evened.nd rfl (Or.inl rfl)) (pgs_cons (pg_name (i := 7) sc__law_evened.nd rfl (Or.inl rfl)) (pgs_cons (pg_name (i := 8) sc__law_evened.nd rfl (Or.inl rfl)) pgs_nil)))))
      (pss_cons (ps_asg (pe_tup (pa_cons (pe_ifExp (pt_cmpR (op_neD hr.units) (pv 8) (pe_tup pa_nil) (nomark _)) (pe_ix ix_tup (pv 8) (pe_un un_neg pe_int) (fun _ _ => rfl)) (pv 7)) (pa_cons (pe_c c__law_counts hr (by decide) (by rfl) (pa_cons (pv 2) pa_nil)) pa_nil))) (pg_tup rfl (pgs_cons (pg_name (i := 9) sc__law_evened.nd rfl (Or.inr rfl)) (pgs_cons (pg_name (i := 10) sc__law_evened.nd rfl (Or.inr rfl)) pgs_nil))))
      (pss_cons (ps_setLc (i := 11) (own := [("_law_one", 12)]) (g := (gName 12)) (tt := (tTest (tOp (rI0 fun i j => .bl (decide (j < i))) (tDGet2 (tVar 10) (tTup (tCons (tVar 12) (tCons (tVar 9) tNil))) (tC (.int 0))) (tDGet2 (tVar 10) (tTup (tCons (tVar 9) (tCons (tVar 12) tNil))) (tC (.int 0)))))) (te := (tVar 12)) rfl sc__law_evened.nd rfl rfl (sw_true rfl rfl rfl (by decide +kernel)) (pi_list (pe_dget hu (pv 3) (pv 9) (fun _ _ => rfl))) (blkOk_by (own := [("_law_one", 12)]) (N := N__law_evened) (sc := defScope s__law_evened) (by decide +kernel)) (fun _ _ _ _ _ => (pg_name (i := 12) sc__law_evened.nd rfl (Or.inl rfl))) (fun _ _ _ _ _ => (pts_one (pt_cmpR op_gt (pe_dget2 hu (pv 10) (pe_tup (pa_cons (pv 12) (pa_cons (pv 9) pa_nil))) pe_int (M2.mk rfl rfl rfl rfl)) (pe_dget2 hu (pv 10) (pe_tup (pa_cons (pv 9) (pa_cons (pv 12) pa_nil))) pe_int (M2.mk rfl rfl rfl rfl)) (nomark _)))) (fun _ _ _ _ _ => (pv 12)))
      (pss_cons (ps_if (PW.pt (pw_and (pt_cmpR (op_neD hr.units) (pv 11) (pe_lst pa_nil) (nomark _)) (pw_and1 (pt_cmpR op_lt (pe_callB call_len_seq (by rfl) B.m_len PySem.boot_len (pa_cons (pv 8) pa_nil)) pe_int (nomark _)))))
        (pss_cons (ps_asg (pe_tup (pa_cons (pv 6) (pa_cons (pv 7) (pa_cons (pe_op op_catA (pv 8) (pe_tup (pa_cons (pe_c c__law_some hr (by decide) (by rfl) (pa_cons (pv 0) (pa_cons (pv 11) pa_nil))) pa_nil))) pa_nil)))) (pg_sub (pv 2) (pv 5) set_list))
        pss_nil)
        pss_nil)
      pss_nil))))))
    (pss_cons (ps_ret (pe_callTy call_tuple_of (by rfl) B.m_tuple (by decide +kernel) (pa_cons (pv 2) pa_nil)))
    pss_nil))), ?_⟩
  refine start_B (N := N__law_evened) Bg Tk hh ?_
  have R := ret_B q
  refine tr_par (by show 3 < 13; decide) (by show 2 < 13; decide) (am_consD (Φ := fun t => ∃ kvs, t = .dK kvs ∧ NearOk L kvs) (ev_callD (ts := [.im (lD L)]) (ea_cons (ev_var rfl) ea_nil) ⟨L, rfl, O, rfl⟩) (am_consM (em_lstT (ds := T0.map tD) (ev_var rfl) (by rw [List.length_map]; omega)) fun p m e => am_nil)) fun ts l ⟨t1, r1, e1, ⟨kvs, e2, N⟩, p, m, r2, l2, e3, e4, e5, e6, e7⟩ => ?_
  subst e7 e6 e5 e4 e3 e2 e1
  refine ⟨_, _, rfl, ?_⟩
  refine tr_for (srcP_rng1 (Ψ := fun _ _ => True) (Φ := dt2 [.im (.int (4 * (T0.length : Int)))]) (ea_cons (ev_opD ev_int ((ev_frzD (i := 2) rfl (ev_lenL (ds := T0.map tD) (ev_var rfl)) (.int _)).eq (by rw [List.length_map])) (rd_i (.inl (by omega)))) ea_nil) fun ts e => ⟨_, e, by omega, by omega, trivial⟩)
    (fun _ i s => ∃ (T : List Trn) (t4 t5 t6 t7 t8 t9 t10 t11 t12 : Ty), T.map (·.1) = T0.map (·.1) ∧ (∀ u ∈ T, TrnOk L u ∧ u.2.2.length ≤ 40) ∧ s = ⟨[.rf b, .im (lD L), .rf p, .dK kvs, t4, t5, t6, t7, t8, t9, t10, t11, t12], [(p, .lst (T.map tD))], some (b, c)⟩)
    (fun _ _ _ => ⟨T0, .any, .any, .any, .any, .any, .any, .any, .any, .any, rfl, hT3, rfl⟩) (fun _ _ _ ⟨_, _, _, _, _, _, _, _, _, _, _, _, e⟩ => by subst e; rfl) ?_ ?_
  · rintro m ty _ H1 Bs i s hi ⟨T, t4, t5, t6, t7, t8, t9, t10, t11, t12, hn, hT, rfl⟩
    have hTl : T.length = T0.length := by
      have := congrArg List.length hn
      rwa [List.length_map, List.length_map] at this
    refine ⟨_, _, bd_name (by show 4 < 13; decide), ?_⟩
    refine tr_asg (by show 5 < 13; decide) (ev_take (n := T.length) rfl (ev_var rfl) ((ev_frzD (i := 2) rfl (ev_lenL (ds := T.map tD) (ev_var rfl)) (.int _)).eq (by rw [List.length_map])) (by omega) (by omega)) ?_
    rintro t ⟨at_, rfl, hat⟩
    have hat : at_ < T.length := by omega
    have hu : T[at_]? = some T[at_] := List.getElem?_eq_getElem hat
    generalize T[at_] = u at hu
    obtain ⟨hu1, hu2⟩ := hT u (List.mem_of_getElem? hu)
    have gu : (T.map tD)[at_]? = some (tD u) := by rw [List.getElem?_map, hu]; rfl
    refine tr_asgTD (ev_frzD (i := 2) rfl (ev_opD (ev_var (t := .im (.list (T.map tD))) rfl) (ev_var rfl) (rd_ixL (at_n gu))) (nlT u)) (bd_tup (bds_cons (bd_name (by show 6 < 13; decide)) (bds_cons (bd_name (by show 7 < 13; decide)) (bds_cons (bd_name (by show 8 < 13; decide)) bds_nil)))) ?_
    have hlast : lastOf u.2.1 u.2.2 ∈ L.1 := lastOf_in hu1.pl (Goes.in O (a := u.2.1) hu1.go)
    refine tr_asgTup2 (by show 9 < 13; decide) (by show 10 < 13; decide) (am_consD (Φ := dt (.im (nD (lastOf u.2.1 u.2.2)))) (ev_if (et_test (ev_neE encSs (a := u.2.2) (b := []) (ev_var rfl) ev_tup0)) (fun e => ?_) fun e => ?_) (am_consD (Φ := fun t => ∃ kvs, t = .dT kvs ∧ intsD kvs) (ev_frzN (i := 2) rfl (ev_callO (S := fun ts Φ => ∃ T : List Trn, ts = [.im (.list (T.map tD))] ∧ T.length ≤ 20 ∧ (∀ t ∈ T, t.2.2.length ≤ 60) ∧ Φ = fun t => ∃ kvs, t = .dT kvs ∧ intsD kvs) (fun vs H Q z => .inr z) (ea_cons (ev_var rfl) ea_nil) ⟨T, rfl, by omega, fun v m => by have := (hT v m).2; omega, rfl⟩) fun t h => h) am_nil)) fun ts l ⟨t1, r1, e1, e2, t2, r2, e3, ⟨cvs, e4, hci⟩, e5, e6⟩ => ?_
    · have hne : u.2.2 ≠ [] := ndec_t e
      have hg : ((u.2.2.map nD)).getLast? = some (nD (lastOf u.2.1 u.2.2)) := by
        rw [List.getLast?_map, getLast_lastOf u.2.1 hne]
        rfl
      exact ev_opD (ev_var (t := .im (.tuple (u.2.2.map nD))) rfl) (ev_neg ev_int) (rd_ixT (at_last hg))
    · have he : u.2.2 = [] := ndec_f e
      rw [he]
      exact ev_var (t := .im (nD u.2.1)) rfl
    subst e6 e5 e4 e3 e2 e1
    refine ⟨_, _, rfl, ?_⟩
    generalize hla : lastOf u.2.1 u.2.2 = la at hlast
    obtain ⟨ns, hv, hl, hnb⟩ := N.at_ la hlast
    refine tr_asg (Φ := fun t => ∃ ms : List Nm, t = .im (.list (ms.map nD)) ∧ ms.length ≤ 200 ∧ ∀ z ∈ ms, z ∈ nbrs L la) (by show 11 < 13; decide) (ev_lc (srcL (as := ns) (f := nD) (ev_dgetK (dk_dataK (ev_var rfl)) (ev_var rfl) hv)) (fun _ i acc => ∃ ms : List Nm, acc = ms.map nD ∧ ms.length ≤ i ∧ ∀ z ∈ ms, z ∈ nbrs L la) (fun n ty ⟨e, _⟩ => ⟨by omega, [], rfl, Nat.zero_le _, fun z m => nomatch m⟩) ?_ ?_) ?_
    · rintro n ty ⟨rfl, hty⟩ H2 Bs2 D i acc hi ⟨ms, rfl, hml, hmm⟩
      have hz : ns[i]? = some ns[i] := List.getElem?_eq_getElem hi
      generalize ns[i] = z at hz
      rw [hty i z hz]
      refine ⟨_, _, bd_name (by show 12 < 13; decide), by decide, rfl, rfl, fun _ => True, etI (evI_get (n := (z, la)) hci (dk_dataT (ev_var rfl)) (ev_tup2 (ev_var (t := .im (nD z)) rfl) (ev_var (t := .im (nD la)) rfl))) (evI_get (n := (la, z)) hci (dk_dataT (ev_var rfl)) (ev_tup2 (ev_var (t := .im (nD la)) rfl) (ev_var (t := .im (nD z)) rfl))) fun _ _ _ _ => trivial, fun _ => ⟨ms, rfl, by omega, hmm⟩, fun _ => (ev_var rfl).imp fun t e => ⟨_, e, ms ++ [z], by rw [List.map_append]; rfl, by rw [List.length_append, List.length_singleton]; omega, fun y m => ?_⟩⟩
      rcases List.mem_append.mp m with m | m
      · exact hmm y m
      · rw [List.mem_singleton.mp m]
        exact (hnb z).mp (List.mem_of_getElem? hz)
    · rintro n ty ⟨rfl, hty⟩ acc ⟨ms, rfl, hml, hmm⟩
      exact ⟨ms, rfl, by omega, hmm⟩
    rintro t ⟨ms, rfl, hml, hmm⟩
    refine tr_ifD (et_and (et_test (ev_neE encS.ll (a := ms) (b := []) (ev_var rfl) ev_lst0)) fun _ => et_test (ev_opD (ev_lenT (ds := u.2.2.map nD) (ev_var rfl)) ev_int rd_b0)) (fun e => ?_) (fun e => ?_)
    · rw [Bool.and_eq_true] at e
      have hne : ms ≠ [] := ndec_t e.1.symm
      have hlt : u.2.2.length < 40 := by
        have := of_decide_eq_true e.2
        rw [List.length_map] at this
        omega
      refine tr_setL (j := at_) (Φ := fun t => ∃ z, t = .im (tD (u.1, u.2.1, u.2.2 ++ [z])) ∧ z ∈ nbrs L la) rfl (by rw [List.length_map]; exact hat) (ev_tupP (ea_consP (Φ := dt (.im (nD u.1))) (ev_var rfl) (ea_consP (Φ := dt (.im (nD u.2.1))) (ev_var rfl) (ea_consP (Φ := fun t => ∃ z, t = .im (sD (u.2.2 ++ [z])) ∧ z ∈ nbrs L la) (ev_op (Φ1 := dt (.im (.tuple (u.2.2.map nD)))) (Φ2 := fun t => ∃ z, t = .im (.tuple [nD z]) ∧ z ∈ nbrs L la) (ev_var rfl) (ev_tupP (ea_consP (Φ := fun t => ∃ z, t = .im (nD z) ∧ z ∈ nbrs L la) (ev_someL (ds := ms.map nD) rfl (ev_var rfl) (ev_var rfl) (fun z => hne (List.map_eq_nil_iff.mp z)) (by rw [List.length_map]; omega) ?_) ea_nil) ?_) ?_) ea_nil))) ?_) (ev_var rfl) ?_
      · intro d hd
        obtain ⟨z, hz, rfl⟩ := List.mem_map.mp hd
        exact ⟨z, rfl, hmm z hz⟩
      · rintro ts ⟨t1, r1, rfl, ⟨z, rfl, hz⟩, rfl⟩
        exact ⟨[_], rfl, by show 1 ≤ 100000; decide, z, rfl, hz⟩
      · rintro _ _ rfl ⟨z, rfl, hz⟩
        refine fun M a b H T ha hb Q q => rd_catT (by rw [List.length_map]; show u.2.2.length + 1 ≤ 100000; omega) M a b H T ha hb Q fun w v H' e => q w v H' ⟨z, ?_, hz⟩
        rw [e]
        unfold sD
        rw [List.map_append]
        rfl
      · rintro ts ⟨t1, r1, rfl, rfl, t2, r2, rfl, rfl, t3, r3, rfl, ⟨z, rfl, hz⟩, rfl⟩
        exact ⟨[_, _, _], rfl, by show 3 ≤ 100000; decide, z, rfl, hz⟩
      · rintro t ⟨z, rfl, hz⟩
        refine ⟨_, rfl, tr_next fun σ H S => ⟨_, ⟨T.set at_ (u.1, u.2.1, u.2.2 ++ [z]), _, _, _, _, _, _, _, _, _, ?_, fun v hv => ?_, rfl⟩, by rw [List.map_set]; exact S⟩⟩
        · rw [List.map_set, ← hn]
          exact set_same (by rw [List.getElem?_map, hu]; rfl)
        · rcases List.mem_or_eq_of_mem_set hv with m | m
          · exact hT v m
          · rw [m]
            refine ⟨⟨hu1.pl, hu1.go.app fun q hq => ?_⟩, by show (u.2.2 ++ [z]).length ≤ 40; rw [List.length_append, List.length_singleton]; omega⟩
            rw [hla] at hq
            have hq : q ∈ [(la, z)] := hq
            rw [List.mem_singleton.mp hq]
            exact hz
    · exact tr_next fun σ H S => ⟨_, ⟨T, _, _, _, _, _, _, _, _, _, hn, hT, rfl⟩, S⟩
  · rintro m ty _ s ⟨T, t4, t5, t6, t7, t8, t9, t10, t11, t12, hn, hT, rfl⟩
    exact tr_frz (i := 2) rfl (tr_retR R (ev_tupL (ds := T.map tD) (ev_var rfl)) fun t e => ⟨T, e, hn, hT⟩)
abbrev s__law_small : Stmt := topS 49
abbrev N__law_small : List Str := ["_law_bag_here", "_law_sorts_here", "_law_line_here", "_law_many"]
theorem sc__law_small : FnScope N__law_small ["_law_bag_here"] (defScope s__law_small) := ⟨rfl, rfl, rfl, by decide +kernel, rfl, by decide +kernel, by decide +kernel⟩
theorem bd__law_small (B : Bl mg) (c__law_some : Cal P w K mg base 2 "_law_some" sp__law_some []) (c__law_line : Cal P w K mg base 5 "_law_line" sp__law_line []) (c__law_standing : Cal P w K mg base 6 "_law_standing" sp__law_standing []) : Bod P w K mg base N__law_small "_law_small" s__law_small 6 sp__law_small := fun f cdv A outer s H vs Q E hr h => by
  have hu := hu_of hr
  obtain ⟨b, c, x, us, ts, Φ, rfl, Bg, ⟨rfl, rfl⟩, Tk, hh, q⟩ := h
  refine ⟨_, (pss_cons (ps_set (i := 1) sc__law_small.nd rfl (Or.inl rfl) (pe_c c__law_some hr (by decide) (by rfl) (pa_cons (pv 0) (pa_cons (pe_lst (pa_cons (pe_lst (pa_cons pe_str pa_nil)) (pa_cons (pe_lst (pa_cons pe_str (pa_cons pe_str (pa_cons pe_str (pa_cons pe_str pa_nil))))) pa_nil))) pa_nil))))
    (pss_cons (ps_set (i := 2) sc__law_small.nd rfl (Or.inl rfl) (pe_c c__law_line hr (by decide) (by rfl) (pa_cons (pv 0) (pa_cons (pe_c c__law_some hr (by decide) (by rfl) (pa_cons (pv 0) (pa_cons (pe_lst (pa_cons pe_int (pa_cons pe_int (pa_cons pe_int (pa_cons pe_int (pa_cons pe_int (pa_cons pe_int pa_nil))))))) pa_nil))) (pa_cons (pv 1) pa_nil)))))
    (pss_cons (ps_set (i := 3) sc__law_small.nd rfl (Or.inl rfl) (pe_c c__law_some hr (by decide) (by rfl) (pa_cons (pv 0) (pa_cons (pe_lst (pa_cons pe_int (pa_cons pe_int (pa_cons pe_int (pa_cons pe_int pa_nil))))) pa_nil))))
    (pss_cons (ps_ret (pe_tup (pa_cons (pv 2) (pa_cons (pe_c c__law_standing hr (by decide) (by rfl) (pa_cons (pv 0) (pa_cons (pv 2) (pa_cons (pv 3) (pa_cons (pe_ifExp (pt_cmpR op_lt (pv 3) pe_int (nomark _)) (pe_c c__law_some hr (by decide) (by rfl) (pa_cons (pv 0) (pa_cons (pe_lst (pa_cons pe_int (pa_cons pe_int (pa_cons pe_int pa_nil)))) pa_nil))) pe_int) pa_nil))))) pa_nil))))
    pss_nil)))), ?_⟩
  refine start_B (N := N__law_small) Bg Tk hh ?_
  have R := ret_B q
  have two : ∀ d ∈ [PyData.list (List.map nD [stfN]), .list (List.map nD [stfN, stfN, tckN, freeN])], ∃ ns : List Nm, (Ty.im d) = .im (.list (ns.map nD)) ∧ ns ≠ [] ∧ ns.length ≤ 5 := fun d hd => by
    rcases List.mem_cons.mp hd with rfl | hd
    · exact ⟨_, rfl, by simp, by simp⟩
    · rw [List.mem_singleton.mp hd]
      exact ⟨_, rfl, by simp, by simp⟩
  refine tr_asg (Φ := fun t => ∃ ns : List Nm, t = .im (.list (ns.map nD)) ∧ ns ≠ [] ∧ ns.length ≤ 5) (by show 1 < 4; decide) (ev_someL (ds := [PyData.list (List.map nD [stfN]), .list (List.map nD [stfN, stfN, tckN, freeN])]) rfl (ev_var rfl) (ev_lst2 (ev_lst1 ev_str) (ev_lst (ds := List.map nD [stfN, stfN, tckN, freeN]) (ea_cons ev_str (ea_cons ev_str (ea_cons ev_str (ea_cons ev_str ea_nil)))))) (by simp) (by show 2 ≤ 100000; decide) two) ?_
  rintro t ⟨sorts, rfl, hs1, hs2⟩
  refine tr_asg (Φ := fun t => ∃ L : Lin, LinOk L ∧ t = .im (lD L)) (by show 2 < 4; decide) (ev_draw (Ψ := fun ts => ∃ n : Nat, ts = [.im (.int n), .im (.list (sorts.map nD))] ∧ 1 ≤ n ∧ n ≤ 10) rfl (ev_var rfl) ((ea_consP (Φ := fun t => ∃ n : Nat, t = .im (.int n) ∧ 1 ≤ n ∧ n ≤ 10) (ev_someL (ds := List.map (fun n : Nat => PyData.int n) [3, 4, 2, 5, 1, 4]) rfl (ev_var rfl) (ev_lst (ds := List.map (fun n : Nat => PyData.int n) [3, 4, 2, 5, 1, 4]) (ea_cons ev_int (ea_cons ev_int (ea_cons ev_int (ea_cons ev_int (ea_cons ev_int (ea_cons ev_int ea_nil))))))) (by simp) (by show 6 ≤ 100000; decide) ?_) (ea_consP (Φ := dt (.im (.list (sorts.map nD)))) (ev_var rfl) ea_nil)).imp ?_) ?_) ?_
  · intro d hd
    obtain ⟨n, hn, rfl⟩ := List.mem_map.mp hd
    exact ⟨n, rfl, by clear hd; revert hn; revert n; decide⟩
  · rintro ts ⟨t1, r1, rfl, ⟨n, rfl, h1, h2⟩, t2, r2, rfl, rfl, rfl⟩
    exact ⟨n, rfl, h1, h2⟩
  · rintro ts ⟨n, rfl, h1, h2⟩
    exact ⟨_, ⟨n, sorts, rfl, h1, h2, hs1, by omega, rfl⟩, fun t ⟨L, O, _, _, _, e⟩ => ⟨L, O, e⟩⟩
  rintro t ⟨L, O, rfl⟩
  refine tr_asg (Φ := fun t => ∃ n : Nat, t = .im (.int n) ∧ 1 ≤ n ∧ n ≤ 4) (by show 3 < 4; decide) (ev_someL (ds := List.map (fun n : Nat => PyData.int n) [2, 3, 1, 4]) rfl (ev_var rfl) (ev_lst (ds := List.map (fun n : Nat => PyData.int n) [2, 3, 1, 4]) (ea_cons ev_int (ea_cons ev_int (ea_cons ev_int (ea_cons ev_int ea_nil))))) (by simp) (by show 4 ≤ 100000; decide) ?_) ?_
  · intro d hd
    obtain ⟨n, hn, rfl⟩ := List.mem_map.mp hd
    exact ⟨n, rfl, by clear hd; revert hn; revert n; decide⟩
  rintro t ⟨n, rfl, hn1, hn2⟩
  refine tr_retR R (ev_pairP (L := L) (Φ := isDrawn) (ev_var rfl) (ev_draw (Φ := fun t => ∃ Z : Stn, t = stnTy Z ∧ StnG L Z 40 ∧ Z.2.length = n) (Ψ := fun ts => ∃ st : Nat, ts = [.im (lD L), .im (.int n), .im (.int st)] ∧ st ≤ 9) rfl (ev_var rfl) ((ea_consP (Φ := dt (.im (lD L))) (ev_var rfl) (ea_consP (Φ := dt (.im (.int n))) (ev_var rfl) (ea_consP (Φ := fun t => ∃ st : Nat, t = .im (.int st) ∧ st ≤ 9) (ev_if (Ψ := fun _ => True) (etI (evI_var rfl) evI_c fun _ _ _ _ => trivial) (fun _ => ev_someL (ds := List.map (fun n : Nat => PyData.int n) [3, 4, 2]) rfl (ev_var rfl) (ev_lst (ds := List.map (fun n : Nat => PyData.int n) [3, 4, 2]) (ea_cons ev_int (ea_cons ev_int (ea_cons ev_int ea_nil)))) (by simp) (by show 3 ≤ 100000; decide) ?_) fun _ => ev_int.imp fun t e => ⟨2, e, by decide⟩) ea_nil))).imp ?_) ?_) ?_) fun t h => h
  · intro d hd
    obtain ⟨n, hn, rfl⟩ := List.mem_map.mp hd
    exact ⟨n, rfl, by clear hd; revert hn; revert n; decide⟩
  · rintro ts ⟨t1, r1, rfl, rfl, t2, r2, rfl, rfl, t3, r3, rfl, ⟨st, rfl, h⟩, rfl⟩
    exact ⟨st, rfl, h⟩
  · rintro ts ⟨st, rfl, h⟩
    exact ⟨_, ⟨L, n, st, rfl, O, hn1, by omega, h, rfl⟩, fun t h => h⟩
  · rintro t ⟨Z, rfl, G, hl⟩
    exact ⟨Z, rfl, L, Z, rfl, O, G, by omega, by omega⟩
abbrev s__law_middle : Stmt := topS 52
abbrev N__law_middle : List Str := ["_law_bag_here", "_law_sorts_here", "_law_line_here"]
theorem sc__law_middle : FnScope N__law_middle ["_law_bag_here"] (defScope s__law_middle) := ⟨rfl, rfl, rfl, by decide +kernel, rfl, by decide +kernel, by decide +kernel⟩
theorem bd__law_middle (B : Bl mg) (c__law_some : Cal P w K mg base 2 "_law_some" sp__law_some []) (c__law_line : Cal P w K mg base 5 "_law_line" sp__law_line []) (c__law_standing : Cal P w K mg base 6 "_law_standing" sp__law_standing []) : Bod P w K mg base N__law_middle "_law_middle" s__law_middle 6 sp__law_middle := fun f cdv A outer s H vs Q E hr h => by
  have hu := hu_of hr
  obtain ⟨b, c, x, us, ts, Φ, rfl, Bg, ⟨rfl, rfl⟩, Tk, hh, q⟩ := h
  refine ⟨_, (pss_cons (ps_set (i := 1) sc__law_middle.nd rfl (Or.inl rfl) (pe_c c__law_some hr (by decide) (by rfl) (pa_cons (pv 0) (pa_cons (pe_lst (pa_cons (pe_lst (pa_cons pe_str pa_nil)) (pa_cons (pe_lst (pa_cons pe_str (pa_cons pe_str (pa_cons pe_str (pa_cons pe_str (pa_cons pe_str pa_nil)))))) pa_nil))) pa_nil))))
    (pss_cons (ps_set (i := 2) sc__law_middle.nd rfl (Or.inl rfl) (pe_c c__law_line hr (by decide) (by rfl) (pa_cons (pv 0) (pa_cons (pe_c c__law_some hr (by decide) (by rfl) (pa_cons (pv 0) (pa_cons (pe_lst (pa_cons pe_int (pa_cons pe_int (pa_cons pe_int pa_nil)))) pa_nil))) (pa_cons (pv 1) pa_nil)))))
    (pss_cons (ps_ret (pe_tup (pa_cons (pv 2) (pa_cons (pe_c c__law_standing hr (by decide) (by rfl) (pa_cons (pv 0) (pa_cons (pv 2) (pa_cons (pe_c c__law_some hr (by decide) (by rfl) (pa_cons (pv 0) (pa_cons (pe_lst (pa_cons pe_int (pa_cons pe_int (pa_cons pe_int pa_nil)))) pa_nil))) (pa_cons (pe_c c__law_some hr (by decide) (by rfl) (pa_cons (pv 0) (pa_cons (pe_lst (pa_cons pe_int (pa_cons pe_int (pa_cons pe_int pa_nil)))) pa_nil))) pa_nil))))) pa_nil))))
    pss_nil))), ?_⟩
  refine start_B (N := N__law_middle) Bg Tk hh ?_
  have R := ret_B q
  have two : ∀ d ∈ [PyData.list (List.map nD [stfN]), .list (List.map nD [stfN, stfN, stfN, tckN, freeN])], ∃ ns : List Nm, (Ty.im d) = .im (.list (ns.map nD)) ∧ ns ≠ [] ∧ ns.length ≤ 5 := fun d hd => by
    rcases List.mem_cons.mp hd with rfl | hd
    · exact ⟨_, rfl, by simp, by simp⟩
    · rw [List.mem_singleton.mp hd]
      exact ⟨_, rfl, by simp, by simp⟩
  refine tr_asg (Φ := fun t => ∃ ns : List Nm, t = .im (.list (ns.map nD)) ∧ ns ≠ [] ∧ ns.length ≤ 5) (by show 1 < 3; decide) (ev_someL (ds := [PyData.list (List.map nD [stfN]), .list (List.map nD [stfN, stfN, stfN, tckN, freeN])]) rfl (ev_var rfl) (ev_lst2 (ev_lst1 ev_str) (ev_lst (ds := List.map nD [stfN, stfN, stfN, tckN, freeN]) (ea_cons ev_str (ea_cons ev_str (ea_cons ev_str (ea_cons ev_str (ea_cons ev_str ea_nil))))))) (by simp) (by show 2 ≤ 100000; decide) two) ?_
  rintro t ⟨sorts, rfl, hs1, hs2⟩
  refine tr_asg (Φ := fun t => ∃ L : Lin, LinOk L ∧ t = .im (lD L)) (by show 2 < 3; decide) (ev_draw (Ψ := fun ts => ∃ n : Nat, ts = [.im (.int n), .im (.list (sorts.map nD))] ∧ 1 ≤ n ∧ n ≤ 10) rfl (ev_var rfl) ((ea_consP (Φ := fun t => ∃ n : Nat, t = .im (.int n) ∧ 1 ≤ n ∧ n ≤ 10) (ev_someL (ds := List.map (fun n : Nat => PyData.int n) [6, 8, 10]) rfl (ev_var rfl) (ev_lst (ds := List.map (fun n : Nat => PyData.int n) [6, 8, 10]) (ea_cons ev_int (ea_cons ev_int (ea_cons ev_int ea_nil)))) (by simp) (by show 3 ≤ 100000; decide) ?_) (ea_consP (Φ := dt (.im (.list (sorts.map nD)))) (ev_var rfl) ea_nil)).imp ?_) ?_) ?_
  · intro d hd
    obtain ⟨n, hn, rfl⟩ := List.mem_map.mp hd
    exact ⟨n, rfl, by clear hd; revert hn; revert n; decide⟩
  · rintro ts ⟨t1, r1, rfl, ⟨n, rfl, h1, h2⟩, t2, r2, rfl, rfl, rfl⟩
    exact ⟨n, rfl, h1, h2⟩
  · rintro ts ⟨n, rfl, h1, h2⟩
    exact ⟨_, ⟨n, sorts, rfl, h1, h2, hs1, by omega, rfl⟩, fun t ⟨L, O, _, _, _, e⟩ => ⟨L, O, e⟩⟩
  rintro t ⟨L, O, rfl⟩
  have some3 : ∀ {ss : SS} {H0 : Hp} {te ta : TE}, ss.b = some (b, c) → EvD H0 x ss te (.rf b) → EvD H0 x ss ta (.im (.list (List.map (fun n : Nat => PyData.int n) [3, 5, 4]))) → Ev H0 x ss (tCall sp__law_some [] C8.E0 (tCons te (tCons ta tNil))) (fun t => ∃ n : Nat, t = .im (.int n) ∧ 1 ≤ n ∧ n ≤ 5) := fun h1 h2 h3 => ev_someL (ds := List.map (fun n : Nat => PyData.int n) [3, 5, 4]) h1 h2 h3 (by simp) (by show 3 ≤ 100000; decide) fun d hd => by
    obtain ⟨n, hn, rfl⟩ := List.mem_map.mp hd
    exact ⟨n, rfl, by clear hd; revert hn; revert n; decide⟩
  refine tr_retR R (ev_pairP (L := L) (Φ := isDrawn) (ev_var rfl) (ev_draw (Φ := fun t => ∃ Z : Stn, t = stnTy Z ∧ StnG L Z 40 ∧ 1 ≤ Z.2.length ∧ Z.2.length ≤ 5) (Ψ := fun ts => ∃ n st : Nat, ts = [.im (lD L), .im (.int n), .im (.int st)] ∧ 1 ≤ n ∧ n ≤ 5 ∧ st ≤ 9) rfl (ev_var rfl) ((ea_consP (Φ := dt (.im (lD L))) (ev_var rfl) (ea_consP (Φ := fun t => ∃ n : Nat, t = .im (.int n) ∧ 1 ≤ n ∧ n ≤ 5) (some3 rfl (ev_var rfl) (ev_lst (ds := List.map (fun n : Nat => PyData.int n) [3, 5, 4]) (ea_cons ev_int (ea_cons ev_int (ea_cons ev_int ea_nil))))) (ea_consP (Φ := fun t => ∃ n : Nat, t = .im (.int n) ∧ 1 ≤ n ∧ n ≤ 5) (some3 rfl (ev_var rfl) (ev_lst (ds := List.map (fun n : Nat => PyData.int n) [3, 5, 4]) (ea_cons ev_int (ea_cons ev_int (ea_cons ev_int ea_nil))))) ea_nil))).imp ?_) ?_) ?_) fun t h => h
  · rintro ts ⟨t1, r1, rfl, rfl, t2, r2, rfl, ⟨n, rfl, h1, h2⟩, t3, r3, rfl, ⟨st, rfl, h3, h4⟩, rfl⟩
    exact ⟨n, st, rfl, h1, h2, by omega⟩
  · rintro ts ⟨n, st, rfl, h1, h2, h3⟩
    exact ⟨_, ⟨L, n, st, rfl, O, h1, by omega, h3, rfl⟩, fun t ⟨Z, e, G, hl⟩ => ⟨Z, e, G, by omega, by omega⟩⟩
  · rintro t ⟨Z, rfl, G, h1, h2⟩
    exact ⟨Z, rfl, L, Z, rfl, O, G, h1, h2⟩
end
end Sx
set_option Elab.async false
set_option linter.all false
set_option maxRecDepth 100000
set_option maxHeartbeats 4000000
namespace Sx
open PySem PySem.Spec PyProof.Rows L2
open C8 (Cal pe_c)
def mkN (s : Str) (h : PyData.strOk s = true ∧ s.length ≤ 24 := by decide +kernel) : Nm := ⟨s, h⟩
def zNs : List Nm := [mkN "z", mkN "zz", mkN "zzz", mkN "zzzz", mkN "zzzzz", mkN "zzzzzz", mkN "zzzzzzz", mkN "zzzzzzzz", mkN "zzzzzzzzz", mkN "zzzzzzzzzz", mkN "zzzzzzzzzzz"]
def newNs : List Nm := zNs ++ [mkN "zy"]
theorem newNs_nd : newNs.Nodup := by
  have : (newNs.map fun n => n.1).Nodup := by decide +kernel
  exact List.Pairwise.of_map (S := fun a b => a ≠ b) (fun n : Nm => n.1) (fun a b h e => h (congrArg (fun n : Nm => n.1) e)) this
theorem zNs_at : ∀ i : Nat, i < 11 → (zNs.map nD)[i]? = some (.str (repT "z" (1 + (i : Int)))) := by
  have : ∀ i : Nat, i < 11 → (zNs.map fun n => n.1)[i]? = some (repT "z" (1 + (i : Int))) := by decide +kernel
  intro i hi
  have h := this i hi
  rw [List.getElem?_map] at h ⊢
  cases e : zNs[i]? with
  | none =>
    rw [e] at h
    cases h
  | some n =>
    rw [e] at h
    have h : n.1 = _ := Option.some.inj h
    show some (PyData.str n.1) = _
    rw [h]
theorem cut_pre2 {α : Type} {xs : List α} {n : Nat} (h : n ≤ xs.length) : cutD xs none (some (n : Int)) = xs.take n := by
  unfold cutD
  rw [HT.sIx_none, HT.sIx_nat, List.drop_zero, Nat.sub_zero, Nat.min_eq_left h]
theorem cut_suf {α : Type} {xs : List α} {n : Nat} (h : n ≤ xs.length) : cutD xs (some (n : Int)) none = xs.drop n := by
  unfold cutD
  rw [HT.sIx_none, HT.sIx_nat, Nat.min_eq_left h]
  exact List.take_of_length_le (by rw [List.length_drop]; omega)
def withT (Z : Stn) (t : Trn) : Stn := (Z.1, ((Z.2.filter fun u => !decide (u.1 = t.1)) ++ [t]).mergeSort (leD tD))
structure Wider (L : Lin) (Z : Stn) (L' : Lin) (Z' : Stn) (i : Nat) (s : Sec) (so : Nm) : Prop where
  at_ : L.2[i]? = some s
  so_ : (s.2.2 = stfN ∧ so = tckN) ∨ so = freeN
  ln : L' = (L.1, L.2.set i (s.1, s.2.1, so))
  sn : Z' = (Z.1.filter fun f => !decide (so = freeN) || !decide (f.1 = (s.1, s.2.1)), Z.2)
abbrev sp__law_new_name : Sp := spF fun ts Φ => ∃ Z : Stn, ts = [stnTy Z] ∧ Z.2.length ≤ 11 ∧ Φ = fun t => ∃ n : Nm, t = .im (nD n) ∧ n ∉ Z.2.map (·.1)
abbrev sp__law_with_train : Sp := spF fun ts Φ => ∃ (Z : Stn) (t : Trn), ts = [stnTy Z, .im (tD t)] ∧ Z.2.length ≤ 20 ∧ Φ = dt (stnTy (withT Z t))
abbrev sp__law_wider : Sp := spB fun ts Φ => ∃ (L : Lin) (Z : Stn), ts = [.im (lD L), stnTy Z] ∧ L.2.length ≤ 100 ∧ Z.1.length ≤ 100 ∧ Φ = fun t => ∃ L' Z', t = pairTy L' Z' ∧ ((L' = L ∧ Z' = Z) ∨ ∃ i s so, Wider L Z L' Z' i s so)
section
variable {P : Program} {w : World} {K : PySem.W.Frag} {mg : Str → Option Value} {base : Heap}
abbrev s__law_new_name : Stmt := topS 53
abbrev N__law_new_name : List Str := ["_law_standing_here", "_law_names_here", "_law_train", "_law_many", "_law_name"]
theorem sc__law_new_name : FnScope N__law_new_name ["_law_standing_here"] (defScope s__law_new_name) := ⟨rfl, rfl, rfl, by decide +kernel, rfl, by decide +kernel, by decide +kernel⟩
theorem bd__law_new_name (B : Bl mg)  : Bod P w K mg base N__law_new_name "_law_new_name" s__law_new_name 0 sp__law_new_name := fun f cdv A outer s H vs Q E hr h => by
  have hu := hu_of hr
  obtain ⟨x, ts, Φ, ⟨Z, rfl, hZ, rfl⟩, T, hh, q⟩ := h
  refine ⟨_, (pss_cons (ps_set (i := 1) sc__law_new_name.nd rfl (Or.inr rfl) (pe_lc (own := [("_law_train", 2)]) (g := (gName 2)) (tt := tYes) (te := (tOp (rIxT K) (tVar 2) (tC (.int 0)))) rfl sc__law_new_name.nd (pi_tup (pe_ix ix_tup (pv 0) pe_int (fun _ _ => rfl))) (blkOk_by (own := [("_law_train", 2)]) (N := N__law_new_name) (sc := defScope s__law_new_name) (by decide +kernel)) (fun _ _ _ _ _ => (pg_name (i := 2) sc__law_new_name.nd rfl (Or.inl rfl))) (fun _ _ _ _ _ => pts_nil) (fun _ _ _ _ _ => (pe_ix ix_tup (pv 2) pe_int (fun _ _ => rfl)))))
    (pss_cons (ps_ret (pe_ix ix_list (pe_lc (own := [("_law_name", 4)]) (g := (gName 4)) (tt := (tTest (tOp (rNotInD K) (tVar 4) (tVar 1)))) (te := (tVar 4)) rfl sc__law_new_name.nd (pi_list (pe_op op_cat (pe_lc (own := [("_law_many", 3)]) (g := (gName 3)) (tt := tYes) (te := (tOp rRepS (tC (.str "z")) (tVar 3))) rfl sc__law_new_name.nd (pi_range2 (by rfl) B.m_range (pa_cons pe_int (pa_cons pe_int pa_nil))) (blkOk_by (own := [("_law_many", 3)]) (N := N__law_new_name) (sc := defScope s__law_new_name) (by decide +kernel)) (fun _ _ _ _ _ => (pg_name (i := 3) sc__law_new_name.nd rfl (Or.inl rfl))) (fun _ _ _ _ _ => pts_nil) (fun _ _ _ _ _ => (pe_op op_repS pe_str (pv 3)))) (pe_lst (pa_cons pe_str pa_nil)))) (blkOk_by (own := [("_law_name", 4)]) (N := N__law_new_name) (sc := defScope s__law_new_name) (by decide +kernel)) (fun _ _ _ _ _ => (pg_name (i := 4) sc__law_new_name.nd rfl (Or.inl rfl))) (fun _ _ _ _ _ => (pts_one (pt_cmpR (op_notInD hr.units1) (pv 4) (pv 1) (by with_unfolding_all rfl)))) (fun _ _ _ _ _ => (pv 4))) pe_int (fun _ _ => rfl)))
    pss_nil)), ?_⟩
  refine start_F (N := N__law_new_name) T hh ?_
  have R := ret_F q
  refine tr_asgD (t := .im (.list ((Z.2.map (·.1)).map nD))) (by show 1 < 5; decide) (ev_lcM (as := Z.2) (f := tD) (h := nD) (e := fun t => t.1) (srcT (ev_z1 (ev_var (t := stnTy Z) rfl))) (by omega) fun H1 Bs D acc a _ => ⟨_, _, bd_name (by show 2 < 5; decide), by decide, rfl, rfl, ev_ixT (ev_var (t := .im (tD a)) rfl)⟩) ?_
  have hz : EvD H x (({ g := St0 [stnTy Z] N__law_new_name.length, l := [], b := none } : SS).st 1 (.im (.list ((Z.2.map (·.1)).map nD)))) (tOp rCat (tLc (iRng2 (tCons (tC (.int 1)) (tCons (tC (.int 12)) tNil))) (gName 3) tYes (tOp rRepS (tC (.str "z")) (tVar 3)) [3]) (tLst (tCons (tC (.str "zy")) tNil))) (.im (.list (newNs.map nD))) := by
    refine (ev_opD (t := .im (.list (zNs.map nD))) (ev_lc (Φ := dt (.im (.list (zNs.map nD)))) (src_rng2 (m := 1) (n := 12) (ea_cons ev_int (ea_cons ev_int ea_nil)) (by omega) (by omega) (by omega)).p (fun _ i acc => acc = (zNs.map nD).take i) (fun n ty ⟨e, _⟩ => ⟨by omega, rfl⟩) ?_ ?_) (ev_lst1 ev_str) (rd_catL (ds := zNs.map nD) (by rw [List.length_map]; decide))).eq rfl
    · rintro n ty ⟨rfl, rfl⟩ H1 Bs D i acc hi rfl
      have hi : i < 11 := by omega
      refine ⟨_, _, bd_name (by show 3 < 5; decide), by decide, rfl, rfl, fun b => b = true, et_yes, (fun e => by cases e), fun _ => ?_⟩
      refine (ev_opD ev_str (ev_var rfl) (rd_repS (n := 1 + (i : Nat)) (by omega) (by omega) (by decide))).imp fun t e => ⟨_, e, ?_⟩
      rw [take_next (zNs_at i hi)]
    · rintro n ty ⟨rfl, rfl⟩ acc rfl
      rfl
  have hne : newNs.filter (fun n => !decide (n ∈ Z.2.map (·.1))) ≠ [] := fun e => by
    have h1 : ∀ n ∈ newNs, n ∈ Z.2.map (·.1) := fun n hn => Classical.byContradiction fun z => by
      have := List.filter_eq_nil_iff.mp e n hn
      rw [decide_eq_false z] at this
      exact this rfl
    have h2 := nodup_sub_len newNs_nd h1
    rw [List.length_map] at h2
    have h3 : newNs.length = 12 := by decide
    omega
  obtain ⟨nw, rest, hf⟩ : ∃ a r, newNs.filter (fun n => !decide (n ∈ Z.2.map (·.1))) = a :: r := by
    cases e : newNs.filter (fun n => !decide (n ∈ Z.2.map (·.1))) with
    | nil => exact absurd e hne
    | cons a r => exact ⟨a, r, rfl⟩
  have hnw : nw ∉ Z.2.map (·.1) := by
    have : nw ∈ newNs.filter (fun n => !decide (n ∈ Z.2.map (·.1))) := by rw [hf]; exact List.mem_cons_self
    have := (List.mem_filter.mp this).2
    exact ndec_t this.symm
  refine tr_retR R (ev_opD (t := .im (.list ((nw :: rest).map nD))) (w := .im (nD nw)) ((ev_lcE (as := newNs) (f := nD) (h := nD) (c := fun n => !decide (n ∈ Z.2.map (·.1))) (e := fun n => n) (srcL hz) (by decide) fun H1 Bs D acc a _ => ⟨_, _, bd_name (by show 4 < 5; decide), by decide, rfl, rfl, (et_test (ev_opD (ev_var rfl) (ev_var rfl) (rd_ni encS (a := a) (as := Z.2.map (·.1))))).eq (congrArg (!·) (dec_any _ _)), fun _ => ev_var rfl⟩).eq (by rw [hf, List.map_id'])) ev_int (rd_ixL (by rw [List.map_cons]; exact at_0 _ _))) fun t e => ⟨nw, e, hnw⟩
abbrev s__law_with_train : Stmt := topS 54
abbrev N__law_with_train : List Str := ["_law_standing_here", "_law_train", "_law_one"]
theorem sc__law_with_train : FnScope N__law_with_train ["_law_standing_here", "_law_train"] (defScope s__law_with_train) := ⟨rfl, rfl, rfl, by decide +kernel, rfl, by decide +kernel, by decide +kernel⟩
theorem bd__law_with_train (B : Bl mg)  : Bod P w K mg base N__law_with_train "_law_with_train" s__law_with_train 0 sp__law_with_train := fun f cdv A outer s H vs Q E hr h => by
  have hu := hu_of hr
  obtain ⟨x, ts, Φ, ⟨Z, t, rfl, hZ, rfl⟩, T, hh, q⟩ := h
  refine ⟨_, (pss_cons (ps_ret (pe_tup (pa_cons (pe_ix ix_tup (pv 0) pe_int (fun _ _ => rfl)) (pa_cons (pe_callTy call_tuple_of (by rfl) B.m_tuple (by decide +kernel) (pa_cons (pe_callB (cr_sortD hr.units1) (by rfl) B.m_sorted (by decide +kernel) (pa_cons (pe_op op_cat (pe_lc (own := [("_law_one", 2)]) (g := (gName 2)) (tt := (tTest (tOp (rNeD K) (tOp (rIxT K) (tVar 2) (tC (.int 0))) (tOp (rIxT K) (tVar 1) (tC (.int 0)))))) (te := (tVar 2)) rfl sc__law_with_train.nd (pi_tup (pe_ix ix_tup (pv 0) pe_int (fun _ _ => rfl))) (blkOk_by (own := [("_law_one", 2)]) (N := N__law_with_train) (sc := defScope s__law_with_train) (by decide +kernel)) (fun _ _ _ _ _ => (pg_name (i := 2) sc__law_with_train.nd rfl (Or.inl rfl))) (fun _ _ _ _ _ => (pts_one (pt_cmpR (op_neD hr.units) (pe_ix ix_tup (pv 2) pe_int (fun _ _ => rfl)) (pe_ix ix_tup (pv 1) pe_int (fun _ _ => rfl)) (nomark _)))) (fun _ _ _ _ _ => (pv 2))) (pe_lst (pa_cons (pv 1) pa_nil))) pa_nil)) pa_nil)) pa_nil))))
    pss_nil), ?_⟩
  refine start_F (N := N__law_with_train) T hh ?_
  have hfl := List.length_filter_le (fun u : Trn => !decide (u.1 = t.1)) Z.2
  refine tr_retE (ret_F q) (ev_stn (F := Z.1) (T := (withT Z t).2) (ev_z0 (ev_var (t := stnTy Z) rfl)) (ev_tupL (ev_sort srtT encT (as := (Z.2.filter fun u => !decide (u.1 = t.1)) ++ [t]) ((ev_opD (ev_lcE (as := Z.2) (f := tD) (h := tD) (c := fun u => !decide (u.1 = t.1)) (e := fun u => u) (srcT (ev_z1 (ev_var (t := stnTy Z) rfl))) (by omega) fun H1 Bs D acc a _ => ⟨_, _, bd_name (by show 2 < 3; decide), by decide, rfl, rfl, et_test (ev_neE encS (a := a.1) (b := t.1) (ev_ixT (ev_var (t := .im (tD a)) rfl)) (ev_ixT (ev_var (t := .im (tD t)) rfl))), fun _ => ev_var rfl⟩) (ev_lst1 (ev_var (t := .im (tD t)) rfl)) (rd_catL ?_)).eq ?_) ?_)))
  · rw [List.length_map, List.length_map]
    show (Z.2.filter _).length + 1 ≤ 100000
    omega
  · rw [List.map_id', List.map_append]
    rfl
  · rw [List.length_append, List.length_singleton]
    omega
abbrev s__law_wider : Stmt := topS 55
abbrev N__law_wider : List Str := ["_law_bag_here", "_law_line_here", "_law_standing_here", "_law_at", "_law_one", "_law_other", "_law_sort", "_law_staffs_here", "_law_staff"]
theorem sc__law_wider : FnScope N__law_wider ["_law_bag_here", "_law_line_here", "_law_standing_here"] (defScope s__law_wider) := ⟨rfl, rfl, rfl, by decide +kernel, rfl, by decide +kernel, by decide +kernel⟩
theorem bd__law_wider (B : Bl mg) (c__law_take : Cal P w K mg base 1 "_law_take" sp__law_take []) (c__law_some : Cal P w K mg base 2 "_law_some" sp__law_some []) : Bod P w K mg base N__law_wider "_law_wider" s__law_wider 2 sp__law_wider := fun f cdv A outer s H vs Q E hr h => by
  have hu := hu_of hr
  obtain ⟨b, c, x, us, ts, Φ, rfl, Bg, ⟨L, Z, rfl, hL, hZ, rfl⟩, Tk, hh, q⟩ := h
  refine ⟨_, (pss_cons (ps_if (pt_cmpR (op_eqD hr.units) (pe_ix ix_tup (pv 1) pe_int (fun _ _ => rfl)) (pe_tup pa_nil) (nomark _))
      (pss_cons (ps_ret (pe_tup (pa_cons (pv 1) (pa_cons (pv 2) pa_nil))))
      pss_nil)
      pss_nil)
    (pss_cons (ps_set (i := 3) sc__law_wider.nd rfl (Or.inl rfl) (pe_c c__law_take hr (by decide) (by rfl) (pa_cons (pv 0) (pa_cons (pe_callB call_len_seq (by rfl) B.m_len PySem.boot_len (pa_cons (pe_ix ix_tup (pv 1) pe_int (fun _ _ => rfl)) pa_nil)) pa_nil))))
    (pss_cons (ps_asg (pe_ix ix_tup (pe_ix ix_tup (pv 1) pe_int (fun _ _ => rfl)) (pv 3) (fun _ _ => rfl)) (pg_tup rfl (pgs_cons (pg_name (i := 4) sc__law_wider.nd rfl (Or.inr rfl)) (pgs_cons (pg_name (i := 5) sc__law_wider.nd rfl (Or.inr rfl)) (pgs_cons (pg_name (i := 6) sc__law_wider.nd rfl (Or.inr rfl)) pgs_nil)))))
    (pss_cons (ps_set (i := 6) sc__law_wider.nd rfl (Or.inr rfl) (pe_ifExp (pt_cmpR (op_eqD hr.units) (pv 6) pe_str (nomark _)) (pe_c c__law_some hr (by decide) (by rfl) (pa_cons (pv 0) (pa_cons (pe_lst (pa_cons pe_str (pa_cons pe_str pa_nil))) pa_nil))) pe_str))
    (pss_cons (ps_setLc (i := 7) (own := [("_law_staff", 8)]) (g := (gName 8)) (tt := (tOr (tTest (tOp (rNeD K) (tVar 6) (tC (.str "free")))) (tTest (tOp (rNeD K) (tOp (rIxT K) (tVar 8) (tC (.int 0))) (tTup (tCons (tVar 4) (tCons (tVar 5) tNil))))))) (te := (tVar 8)) rfl sc__law_wider.nd rfl rfl (sw_true rfl rfl rfl (by decide +kernel)) (pi_tup (pe_ix ix_tup (pv 2) pe_int (fun _ _ => rfl))) (blkOk_by (own := [("_law_staff", 8)]) (N := N__law_wider) (sc := defScope s__law_wider) (by decide +kernel)) (fun _ _ _ _ _ => (pg_name (i := 8) sc__law_wider.nd rfl (Or.inl rfl))) (fun _ _ _ _ _ => (pts_one (PW.pt (pw_or (pt_cmpR (op_neD hr.units) (pv 6) pe_str (nomark _)) (pw_or1 (pt_cmpR (op_neD hr.units) (pe_ix ix_tup (pv 8) pe_int (fun _ _ => rfl)) (pe_tup (pa_cons (pv 4) (pa_cons (pv 5) pa_nil))) (nomark _))))))) (fun _ _ _ _ _ => (pv 8)))
    (pss_cons (ps_ret (pe_tup (pa_cons (pe_tup (pa_cons (pe_ix ix_tup (pv 1) pe_int (fun _ _ => rfl)) (pa_cons (pe_op op_catA (pe_op op_catA (pe_slice sl_tupA (pe_ix ix_tup (pv 1) pe_int (fun _ _ => rfl)) po_none (po_some (pv 3))) (pe_tup (pa_cons (pe_tup (pa_cons (pv 4) (pa_cons (pv 5) (pa_cons (pv 6) pa_nil)))) pa_nil))) (pe_slice sl_tupA (pe_ix ix_tup (pv 1) pe_int (fun _ _ => rfl)) (po_some (pe_op op_add (pv 3) pe_int)) po_none)) pa_nil))) (pa_cons (pe_tup (pa_cons (pe_callTy cr_tupZ (by rfl) B.m_tuple (by decide +kernel) (pa_cons (pv 7) pa_nil)) (pa_cons (pe_ix ix_tup (pv 2) pe_int (fun _ _ => rfl)) pa_nil))) pa_nil))))
    pss_nil)))))), ?_⟩
  refine start_B (N := N__law_wider) Bg Tk hh ?_
  have R := ret_B q
  refine tr_ifD (et_test (ev_eqE encC.tl (a := L.2) (b := []) (ev_ixT (ev_var (t := .im (lD L)) rfl)) ev_tup0)) (fun e => ?_) (fun e => ?_)
  · exact tr_retR R (ev_pairP (L := L) (Φ := dt (pairTy L Z)) (ev_var (t := .im (lD L)) rfl) (ev_var (t := stnTy Z) rfl) fun t e => ⟨Z, e, rfl⟩) fun t e => ⟨L, Z, e, .inl ⟨rfl, rfl⟩⟩
  · have hne : L.2 ≠ [] := of_decide_eq_false e
    have hpos := List.length_pos_iff.mpr hne
    refine tr_asg (by show 3 < 9; decide) (ev_take (n := L.2.length) rfl (ev_var rfl) ((ev_lenT (ds := L.2.map cD) (ev_ixT (ev_var (t := .im (lD L)) rfl))).eq (by rw [List.length_map])) (by omega) (by omega)) ?_
    rintro t ⟨i, rfl, hi⟩
    have hi : i < L.2.length := by omega
    have hs : L.2[i]? = some L.2[i] := List.getElem?_eq_getElem hi
    generalize L.2[i] = s1 at hs
    have gs : (L.2.map cD)[i]? = some (cD s1) := by rw [List.getElem?_map, hs]; rfl
    refine tr_asgTD (ev_opD (ev_ixT (d := .tuple (L.2.map cD)) (ev_var (t := .im (lD L)) rfl)) (ev_var rfl) (rd_ixT (at_n gs))) (bd_tup (bds_cons (bd_name (by show 4 < 9; decide)) (bds_cons (bd_name (by show 5 < 9; decide)) (bds_cons (bd_name (by show 6 < 9; decide)) bds_nil)))) ?_
    refine tr_asg (Φ := fun t => ∃ so : Nm, t = .im (nD so) ∧ ((s1.2.2 = stfN ∧ so = tckN) ∨ so = freeN)) (by show 6 < 9; decide) (ev_if (et_test (ev_eqE encS (a := s1.2.2) (b := stfN) (ev_var rfl) ev_str)) (fun e => ev_someL (ds := [nD tckN, nD freeN]) rfl (ev_var rfl) (ev_lst2 ev_str ev_str) (by simp) (by show 2 ≤ 100000; decide) fun d hd => ?_) fun e => ev_str.imp fun t e => ⟨freeN, e, .inr rfl⟩) ?_
    · rcases List.mem_cons.mp hd with rfl | hd
      · exact ⟨tckN, rfl, .inl ⟨of_decide_eq_true e.symm, rfl⟩⟩
      · rw [List.mem_singleton.mp hd]
        exact ⟨freeN, rfl, .inr rfl⟩
    rintro t ⟨so, rfl, hso⟩
    refine tr_asgD (by show 7 < 9; decide) ((ev_lcE (as := Z.1) (f := fD) (h := fD) (c := fun f => !decide (so = freeN) || !decide (f.1 = (s1.1, s1.2.1))) (e := fun f => f) (srcZ (ev_z0 (ev_var (t := stnTy Z) rfl))) (by omega) fun H1 Bs D acc a _ => ⟨_, _, bd_name (by show 8 < 9; decide), by decide, rfl, rfl, et_or (et_test (ev_neE encS (a := so) (b := freeN) (ev_var rfl) ev_str)) fun _ => et_test (ev_neE encK (a := a.1) (b := (s1.1, s1.2.1)) (ev_ixT (ev_var (t := .im (fD a)) rfl)) (ev_tup2 (ev_var (t := .im (nD s1.1)) rfl) (ev_var (t := .im (nD s1.2.1)) rfl))), fun _ => ev_var rfl⟩).eq (by rw [List.map_id'])) ?_
    have hset : L.2.set i (s1.1, s1.2.1, so) = (L.2.take i ++ [(s1.1, s1.2.1, so)]) ++ L.2.drop (i + 1) := by
      rw [List.set_eq_take_append_cons_drop, if_pos hi, List.append_assoc]
      rfl
    have hll : ∀ n, (L.2.take n).length ≤ 100 ∧ (L.2.drop n).length ≤ 100 := fun n => ⟨Nat.le_trans (List.length_take_le' _ _) hL, by rw [List.length_drop]; omega⟩
    have h1 := (hll i).1
    have h2 := (hll (i + 1)).2
    refine tr_retR R (ev_pairP (L := (L.1, L.2.set i (s1.1, s1.2.1, so))) (Φ := fun t => ∃ L' Z', t = pairTy L' Z' ∧ ∃ i s so, Wider L Z L' Z' i s so) (ev_tup2 (d1 := .tuple (L.1.map nD)) (d2 := .tuple ((L.2.set i (s1.1, s1.2.1, so)).map cD)) (ev_ixT (ev_var (t := .im (lD L)) rfl)) ((ev_opD (ev_opD ((ev_sl (hi := some (i : Int)) (ev_ixT (d := .tuple (L.2.map cD)) (ev_var (t := .im (lD L)) rfl)) eo_no (eo_at (ev_var rfl)) rs_tup).eq (by rw [cutD_map, cut_pre2 (Nat.le_of_lt hi)])) (ev_tup1 (ev_tup3 (ev_var (t := .im (nD s1.1)) rfl) (ev_var (t := .im (nD s1.2.1)) rfl) (ev_var (t := .im (nD so)) rfl))) (rd_catT ?_)) ((ev_sl (lo := some ((i + 1 : Nat) : Int)) (ev_ixT (d := .tuple (L.2.map cD)) (ev_var (t := .im (lD L)) rfl)) (eo_at ((ev_opD (ev_var rfl) ev_int rd_i0).eq (by congr 2))) eo_no rs_tup).eq (by rw [cutD_map, cut_suf hi])) (rd_catT ?_)).eq ?_))
      (Ψ := dt (stnTy (Z.1.filter fun f => !decide (so = freeN) || !decide (f.1 = (s1.1, s1.2.1)), Z.2))) (ev_stn (ev_tupZ (ev_var rfl)) (ev_z1 (ev_var (t := stnTy Z) rfl))) ?_) fun t ⟨L', Z', e, h⟩ => ⟨L', Z', e, .inr h⟩
    · rw [List.length_map]
      show (L.2.take i).length + 1 ≤ 100000
      omega
    · rw [List.length_append, List.length_map, List.length_map]
      show (L.2.take i).length + 1 + (L.2.drop (i + 1)).length ≤ 100000
      omega
    · rw [hset, List.map_append, List.map_append]
      rfl
    · rintro t rfl
      exact ⟨_, rfl, _, _, rfl, i, s1, so, hs, hso, rfl, rfl⟩
end
end Sx
set_option Elab.async false
set_option linter.all false
set_option maxRecDepth 100000
set_option maxHeartbeats 4000000
/-! Plain laws: one move of the own open run. -/
namespace Sx
open PySem L2 PySem.W
theorem Rch.move {L : Lin} {Z : Stn} {ts : List Trn} {ps : List Key2} (R : Rch L Z ts ps) {i : Nat} {u : Trn} (hu : ts[i]? = some u) {r : Nm} {rs : List Nm} (e : u.2.2 = r :: rs) (ho : openB L Z ps u.2.1 r = true) :
    Rch L Z (ts.set i (u.1, r, rs)) (if keyOf u.2.1 r ∈ ps then ps else ps ++ [keyOf u.2.1 r]) := by
  have hi : i < Z.2.length := by
    rw [← R.len]
    exact (List.getElem?_eq_some_iff.mp hu).1
  have ht : Z.2[i]? = some Z.2[i] := List.getElem?_eq_getElem hi
  generalize Z.2[i] = t at ht
  obtain ⟨k, h1, h2, h3, h4⟩ := R.tr i t ht
  rw [hu] at h1
  cases h1
  obtain ⟨a1, a2⟩ := advP_at t.2.1 t.2.2 k r rs e
  have hl : k + 1 ≤ t.2.2.length := by
    have := (List.getElem?_eq_some_iff.mp a1).1
    rw [pf_len] at this
    exact this
  have g' : Gone L Z t (k + 1) := by
    rw [openB_eq, Bool.or_eq_true] at ho
    rcases ho with ho | ho
    · obtain ⟨t', j', p', b1, b2, b3⟩ := R.pd _ (of_decide_eq_true ho)
      exact .key h3 a1 b1 b2 b3
    · exact .base h3 a1 ho
  have eu : ((adv t k).1, r, rs) = adv t (k + 1) := by
    unfold adv
    rw [a2]
  have sub : ∀ q ∈ ps, q ∈ (if keyOf (adv t k).2.1 r ∈ ps then ps else ps ++ [keyOf (adv t k).2.1 r]) := fun q hq => by
    split
    · exact hq
    · exact List.mem_append_left _ hq
  have kin : keyOf (adv t k).2.1 r ∈ (if keyOf (adv t k).2.1 r ∈ ps then ps else ps ++ [keyOf (adv t k).2.1 r]) := by
    by_cases z : keyOf (adv t k).2.1 r ∈ ps
    · rw [if_pos z]
      exact z
    · rw [if_neg z]
      exact List.mem_append_right _ (List.mem_singleton.mpr rfl)
  rw [eu]
  refine ⟨by rw [List.length_set]; exact R.len, fun j v hv => ?_, fun q hq => ?_, ?_⟩
  · by_cases hj : i = j
    · subst hj
      rw [ht] at hv
      cases hv
      refine ⟨k + 1, List.getElem?_set_self (by rw [R.len]; exact hi), hl, g', fun j p hj hp => ?_⟩
      by_cases hk : j < k
      · exact sub _ (h4 j p hk hp)
      · have : j = k := by omega
        subst this
        have a1 : (passesOf t)[j]? = some ((adv t j).2.1, r) := a1
        rw [a1] at hp
        cases hp
        exact kin
    · obtain ⟨k2, b1, b2, b3, b4⟩ := R.tr j v hv
      exact ⟨k2, by rw [List.getElem?_set_ne hj]; exact b1, b2, b3, fun j p hj hp => sub _ (b4 j p hj hp)⟩
  · by_cases z : keyOf (adv t k).2.1 r ∈ ps
    · rw [if_pos z] at hq
      exact R.pd q hq
    · rw [if_neg z] at hq
      rcases List.mem_append.mp hq with m | m
      · exact R.pd q m
      · rw [List.mem_singleton.mp m]
        exact ⟨t, k, _, g', a1, rfl⟩
  · by_cases z : keyOf (adv t k).2.1 r ∈ ps
    · rw [if_pos z]
      exact R.nd
    · rw [if_neg z]
      exact List.nodup_append.mpr ⟨R.nd, by simp, fun x hx y hy w => z (by rw [← List.mem_singleton.mp hy, ← w]; exact hx)⟩
theorem rem_int : ∀ ts : List Trn, (ts.map fun u => (u.2.2.length : Int)).sum = (rem ts : Int)
  | [] => rfl
  | u :: ts => by
    have := rem_int ts
    unfold rem at this ⊢
    rw [List.map_cons, List.map_cons, List.sum_cons, List.sum_cons, this]
    omega
theorem rem_le {n : Nat} : ∀ {ts : List Trn}, (∀ u ∈ ts, u.2.2.length ≤ n) → rem ts ≤ n * ts.length
  | [], _ => Nat.zero_le _
  | u :: ts, h => by
    have h1 := rem_le (ts := ts) fun v m => h v (List.mem_cons_of_mem _ m)
    have h2 := h u List.mem_cons_self
    unfold rem at h1 ⊢
    rw [List.map_cons, List.sum_cons, List.length_cons, Nat.mul_add, Nat.mul_one]
    omega
end Sx
set_option Elab.async false
set_option linter.all false
set_option maxRecDepth 100000
set_option maxHeartbeats 4000000
namespace Sx
open PySem PySem.Spec PyProof.Rows L2
open C8 (Cal pe_c)
def isRun (us : List Trn) (v : V) (H : Hp) : Prop := ∃ (a : Addr) (v0 v1 : V), v = .ref a ∧ H a = some (.tup [v0, v1]) ∧ Dq H v1 (.tuple (us.map tD))
abbrev runTy (us : List Trn) : Ty := .pr (isRun us)
theorem isRun.mono {us : List Trn} {v : V} {H H' : Hp} (e : Same H H') (h : isRun us v H) : isRun us v H' := by
  obtain ⟨a, v0, v1, h1, h2, h3⟩ := h
  exact ⟨a, v0, v1, h1, e _ _ h2, dp_mono e h3⟩
def tqD (q : Nm × PyData) : PyData := .tuple [nD q.1, q.2]
def prD (u : Trn) : PyData := .tuple [nD u.2.1, sD u.2.2]
def trD (ts : List Trn) : List (Key × PyData) := (ts.map fun u => (u.1, prD u)).map fun q => (kN q.1, q.2)
theorem trD_keys (ts : List Trn) : (trD ts).map (·.1) = (ts.map (·.1)).map kN := by
  unfold trD
  rw [List.map_map, List.map_map, List.map_map]
  rfl
theorem trD_nd {ts : List Trn} (h : (ts.map (·.1)).Nodup) : ((trD ts).map (·.1)).Nodup := by
  rw [trD_keys]
  exact (List.pairwise_map).mpr (List.Pairwise.imp (fun hne he => hne (kN_inj he)) h)
theorem trD_val {ts : List Trn} (h : (ts.map (·.1)).Nodup) {u : Trn} (hu : u ∈ ts) : valD (trD ts) (kN u.1) = some (prD u) := by
  refine valD_at (trD_nd h) ?_
  unfold trD
  rw [List.map_map]
  exact List.mem_map.mpr ⟨u, hu, rfl⟩
theorem trD_set {ts : List Trn} (h : (ts.map (·.1)).Nodup) {i : Nat} {u : Trn} (hu : ts[i]? = some u) (p : Nm) (r : List Nm) : putD (trD ts) (kN u.1) (prD (u.1, p, r)) = trD (ts.set i (u.1, p, r)) := by
  unfold putD
  rw [if_pos]
  · unfold trD
    rw [List.map_map, List.map_map, List.map_map]
    apply List.ext_getElem?
    intro j
    rw [List.getElem?_map, List.getElem?_map]
    by_cases hj : i = j
    · subst hj
      rw [hu, List.getElem?_set_self (List.getElem?_eq_some_iff.mp hu).1]
      show some (if kN u.1 = kN u.1 then (kN u.1, prD (u.1, p, r)) else (kN u.1, prD u)) = _
      rw [if_pos rfl]
      rfl
    · rw [List.getElem?_set_ne hj]
      cases e : ts[j]? with
      | none => rfl
      | some v =>
        show some (if kN v.1 = kN u.1 then (kN v.1, prD (u.1, p, r)) else (kN v.1, prD v)) = some (kN v.1, prD v)
        rw [if_neg]
        intro z
        have h1 : (ts.map (·.1))[i]? = some u.1 := by rw [List.getElem?_map, hu]; rfl
        have h2 : (ts.map (·.1))[j]? = some u.1 := by rw [List.getElem?_map, e, ← kN_inj z]; rfl
        exact hj (nodup_at h h1 h2)
  · rw [trD_keys]
    exact List.mem_map.mpr ⟨u.1, List.mem_map.mpr ⟨u, List.mem_of_getElem? hu, rfl⟩, rfl⟩
theorem stk_val {F : List Stf} (h : (F.map (·.1)).Nodup) {Z : Stn} (hZ : Z.1 = F) {k : Key2} {a : Nm} (e : staffOf Z k = some a) : valD (F.map fun q => (kKK q.1, nD q.2)) (kKK k) = some (nD a) := by
  unfold staffOf at e
  rw [hZ] at e
  obtain ⟨f, h1, h2⟩ := Option.map_eq_some_iff.mp e
  have h0 := List.find?_some h1
  have h3 : f.1 = k := of_decide_eq_true h0
  have h4 := List.mem_of_find?_eq_some h1
  refine valD_at ?_ ?_
  · have e0 : (F.map fun q => (kKK q.1, nD q.2)).map (·.1) = (F.map (·.1)).map kKK := by
      rw [List.map_map, List.map_map]
      rfl
    rw [e0]
    exact (List.pairwise_map).mpr (List.Pairwise.imp (fun hne he => hne (kKK_inj he)) h)
  · exact List.mem_map.mpr ⟨f, h4, by rw [h3, h2]⟩
theorem sok_val {L : Lin} {sok : List (List Key × PyData)} (hs : ∀ s ∈ L.2, valD sok (kKK (s.1, s.2.1)) = some (nD s.2.2)) {k : Key2} {so : Nm} (hk : keyP k = k) (h : sortOf L k = some so) : valD sok (kKK k) = some (nD so) := by
  unfold sortOf at h
  obtain ⟨c, h1, h2⟩ := Option.map_eq_some_iff.mp h
  have h0 := List.find?_some h1
  have h3 : (c.1, c.2.1) = keyOf k.1 k.2 := of_decide_eq_true h0
  have h4 := List.mem_of_find?_eq_some h1
  have hk : keyOf k.1 k.2 = k := hk
  rw [hk] at h3
  have := hs c h4
  rw [h3, h2] at this
  exact this
section
variable {H0 : Hp} {x : List Addr} {ss : SS} {te tf : TE} {D : Ends} {u : TS}
theorem ev_runP {t1 : Ty} {us : List Trn} (h1 : EvD H0 x ss te t1) (h2 : EvD H0 x ss tf (.im (.tuple (us.map tD)))) : EvD H0 x ss (tTup (tCons te (tCons tf tNil))) (runTy us) := fun σ H S Q q =>
  h1 σ H S _ fun t1 v1 H1 p1 S1 e1 r1 => h2 σ H1 S1 _ fun t2 v2 H2 p2 S2 e2 r2 => by
    subst p2
    refine ⟨by show 2 ≤ sizeLine; decide, fun p hp => ?_⟩
    have e3 := same_new (o := .tup [v1, v2]) hp
    have h3 : isRun us (.ref p) (hid (ss.M x) (upd H2 p (.tup [v1, v2]))) := ⟨p, v1, v2, rfl, hid_new S2.trk hp, dp_mono (hid_mono e3) r2⟩
    exact q _ _ _ rfl (S2.pure e3) ((e1.trans e2).trans (hid_mono e3)) (fun H' e => h3.mono e)
theorem tr_brk (k : Tr H0 x ss u D) {nx ct : L2.St → Hp → Prop} {u2 : TS} : Tr H0 x ss (tSeq tBreak u2) { D with nx := nx, ct := ct, bk := u D } := k
theorem src_valsE {H1 : Hp} {p : Addr} {i : Nat} {od : Obj} {vs : List (Key × V)} {ts : List Trn} (hp : H1 p = some (.frz od (.dK vs))) (hpM : p ∉ ss.M x) (hi : ss.g[i]? = some (.rf p)) (hk : KvOk (hid (ss.M x) H1) vs (trD ts)) :
    SrcP H1 x ss (iVals (tVar i)) (fun n ty => n = ts.length ∧ ∀ i a, ts[i]? = some a → ty i = .im (prD a)) := fun σ H S R r =>
  src_vals hp hpM hi hk σ H S R fun J H' Y S' e w y => r (trD ts).length _ J H' Y ⟨by unfold trD; rw [List.length_map, List.length_map], fun j a h => by
    show Ty.im (((trD ts).map fun q => q.2).getD j .none) = _
    unfold trD
    rw [List.map_map, List.map_map, List.getD_eq_getElem?_getD, List.getElem?_map, h]
    rfl⟩ S' e w y
end
abbrev sp__law_open_run : Sp := spB fun ts Φ => ∃ (L : Lin) (Z : Stn), ts = [.im (lD L), stnTy Z, .im .none] ∧ LinOk L ∧ StnOk L Z ∧ (Z.1.map (·.1)).Nodup ∧ Φ = fun t => ∃ us ts ps, RunEnd L Z ts ps ∧ us.Perm ts ∧ t = runTy us
section
variable {P : Program} {w : World} {K : PySem.W.Frag} {mg : Str → Option Value} {base : Heap}
abbrev s__law_open_run : Stmt := topS 50
abbrev N__law_open_run : List Str := ["_law_bag_here", "_law_line_here", "_law_standing_here", "_law_part", "_law_staffs_here", "_law_sorts_here", "_law_passed", "_law_name", "_law_place", "_law_rest", "_law_trains_here", "_law_turn", "_law_gone", "_law_key_here"]
theorem sc__law_open_run : FnScope N__law_open_run ["_law_bag_here", "_law_line_here", "_law_standing_here", "_law_part"] (defScope s__law_open_run) := ⟨rfl, rfl, rfl, by decide +kernel, rfl, by decide +kernel, by decide +kernel⟩
theorem bd__law_open_run (B : Bl mg) (c__law_sorts : Cal P w K mg base 1 "_law_sorts" sp__law_sorts []) (c__law_mixed : Cal P w K mg base 2 "_law_mixed" sp__law_mixed []) (c__law_key : Cal P w K mg base 1 "_law_key" sp__law_key []) : Bod P w K mg base N__law_open_run "_law_open_run" s__law_open_run 2 sp__law_open_run := fun f cdv A outer s H vs Q E hr h => by
  have hu := hu_of hr
  obtain ⟨b, c, x, us, ts, Φ, rfl, Bg, ⟨L, Z, rfl, O, OZ, hZn, rfl⟩, Tk, hh, q⟩ := h
  refine ⟨_, (pss_cons (ps_par3 (i := 4) (j := 5) (l := 6) rfl sc__law_open_run.nd rfl rfl rfl (by decide) (by decide) (by decide) rfl rfl rfl (pa_cons (pe_callTy (cr_dictT rfl hr.units1) (by rfl) B.m_dict (by decide +kernel) (pa_cons (pe_ix ix_tup (pv 2) pe_int (fun _ _ => rfl)) pa_nil)) (pa_cons (pe_c c__law_sorts hr (by decide) (by rfl) (pa_cons (pv 1) pa_nil)) (pa_cons pe_dnewT pa_nil))) (by rfl))
    (pss_cons (ps_set (i := 10) sc__law_open_run.nd rfl (Or.inr rfl) (pe_callTy (call_dictP rfl) (by rfl) B.m_dict (by decide +kernel) (pa_cons (pe_lc (own := [("_law_name", 7), ("_law_place", 8), ("_law_rest", 9)]) (g := (gTup K 3 (gCons (gName 7) (gCons (gName 8) (gCons (gName 9) gNil))))) (tt := (tOr (tTest (tOp (fun x y H Q => y = .non ∧ Q (.bl (decide (x = .non))) H) (tVar 3) (tC .non))) (tTest (tOp (rInTD K) (tVar 8) (tVar 3))))) (te := (tTup (tCons (tVar 7) (tCons (tTup (tCons (tVar 8) (tCons (tVar 9) tNil))) tNil)))) rfl sc__law_open_run.nd (pi_tup (pe_ix ix_tup (pv 2) pe_int (fun _ _ => rfl))) (blkOk_by (own := [("_law_name", 7), ("_law_place", 8), ("_law_rest", 9)]) (N := N__law_open_run) (sc := defScope s__law_open_run) (by decide +kernel)) (fun _ _ _ _ _ => (pg_tup rfl (pgs_cons (pg_name (i := 7) sc__law_open_run.nd rfl (Or.inl rfl)) (pgs_cons (pg_name (i := 8) sc__law_open_run.nd rfl (Or.inl rfl)) (pgs_cons (pg_name (i := 9) sc__law_open_run.nd rfl (Or.inl rfl)) pgs_nil))))) (fun _ _ _ _ _ => (pts_one (PW.pt (pw_or (pt_cmpR op_isN (pv 3) pe_non (nomark _)) (pw_or1 (pt_cmpR (op_inTD hr.units1) (pv 8) (pv 3) (by with_unfolding_all rfl))))))) (fun _ _ _ _ _ => (pe_tup (pa_cons (pv 7) (pa_cons (pe_tup (pa_cons (pv 8) (pa_cons (pv 9) pa_nil))) pa_nil))))) pa_nil)))
    (pss_cons (ps_for PassesOwn.never rfl (pi_range1 (by rfl) B.m_range (pa_cons (pe_op op_add (pe_lock (pe_callB (cr_sum rfl) (by rfl) B.m_sum (by decide +kernel) (pa_cons (pe_lc (own := [("_law_place", 8), ("_law_rest", 9)]) (g := (gTup K 2 (gCons (gName 8) (gCons (gName 9) gNil)))) (tt := tYes) (te := (tCB (rcLen K) (tCons (tVar 9) tNil))) rfl sc__law_open_run.nd (pi_values (pv 10)) (blkOk_by (own := [("_law_place", 8), ("_law_rest", 9)]) (N := N__law_open_run) (sc := defScope s__law_open_run) (by decide +kernel)) (fun _ _ _ _ _ => (pg_tup rfl (pgs_cons (pg_name (i := 8) sc__law_open_run.nd rfl (Or.inl rfl)) (pgs_cons (pg_name (i := 9) sc__law_open_run.nd rfl (Or.inl rfl)) pgs_nil)))) (fun _ _ _ _ _ => pts_nil) (fun _ _ _ _ _ => (pe_callB call_len_seq (by rfl) B.m_len PySem.boot_len (pa_cons (pv 9) pa_nil)))) pa_nil))) pe_int) pa_nil)) (pg_name (i := 11) sc__law_open_run.nd rfl (Or.inl rfl))
      (pss_cons (ps_set (i := 12) sc__law_open_run.nd rfl (Or.inl rfl) pe_int)
      (pss_cons (ps_for PassesOwn.never rfl (pi_list (pe_c c__law_mixed hr (by decide) (by rfl) (pa_cons (pv 0) (pa_cons (pe_callB (cr_sortDK rfl hr.units1) (by rfl) B.m_sorted (by decide +kernel) (pa_cons (pv 10) pa_nil)) pa_nil)))) (pg_name (i := 7) sc__law_open_run.nd rfl (Or.inl rfl))
        (pss_cons (ps_asg (pe_dget hu (pv 10) (pv 7) (fun _ _ => rfl)) (pg_tup rfl (pgs_cons (pg_name (i := 8) sc__law_open_run.nd rfl (Or.inl rfl)) (pgs_cons (pg_name (i := 9) sc__law_open_run.nd rfl (Or.inl rfl)) pgs_nil))))
        (pss_cons (ps_if (PW.pt (pw_and (pt_cmpR (op_neD hr.units) (pv 9) (pe_tup pa_nil) (nomark _)) (pw_and1 (PW.pt (pw_or (pt_cmpR op_isN (pv 3) pe_non (nomark _)) (pw_or1 (pt_cmpR (op_inTD hr.units1) (pv 8) (pv 3) (by with_unfolding_all rfl))))))))
          (pss_cons (ps_set (i := 13) sc__law_open_run.nd rfl (Or.inl rfl) (pe_c c__law_key hr (by decide) (by rfl) (pa_cons (pv 8) (pa_cons (pe_ix ix_tup (pv 9) pe_int (fun _ _ => rfl)) pa_nil))))
          (pss_cons (ps_if (PW.pt (pw_or (pt_cmpR (op_eqD hr.units) (pe_dget hu (pv 5) (pv 13) (fun _ _ => rfl)) pe_str (nomark _)) (pw_or (pt_cmp (pc_din hu (pv 13) (pv 6)) rfl) (pw_or1 (pt_cmpR (op_eqD hr.units) (pe_dget hu (pv 4) (pv 13) (fun _ _ => rfl)) (pv 8) (nomark _))))))
            (pss_cons (ps_dput hu (pv 6) (pv 13) pe_bl rfl)
            (pss_cons (ps_dput hu (pv 10) (pv 7) (pe_tup (pa_cons (pe_ix ix_tup (pv 9) pe_int (fun _ _ => rfl)) (pa_cons (pe_slice sl_tupA (pv 9) (po_some pe_int) po_none) pa_nil))) rfl)
            (pss_cons (ps_aug (i := 12) sc__law_open_run.nd rfl (Or.inl rfl) pe_int ip_add)
            pss_nil)))
            pss_nil)
          pss_nil))
          pss_nil)
        pss_nil)))
      (pss_cons (ps_if (pt_cmpR (op_eqD hr.units) (pv 12) pe_int (nomark _))
        (pss_cons ps_break
        pss_nil)
        pss_nil)
      pss_nil))))
    (pss_cons (ps_ret (pe_tup (pa_cons (pv 6) (pa_cons (pe_callTy call_tuple_of (by rfl) B.m_tuple (by decide +kernel) (pa_cons (pe_lc (own := [("_law_name", 7)]) (g := (gName 7)) (tt := tYes) (te := (tOp (rCatA K) (tTup (tCons (tVar 7) tNil)) (tDGet (tVar 10) (tVar 7)))) rfl sc__law_open_run.nd (pi_list (pe_callB (cr_sortDK rfl hr.units1) (by rfl) B.m_sorted (by decide +kernel) (pa_cons (pv 10) pa_nil))) (blkOk_by (own := [("_law_name", 7)]) (N := N__law_open_run) (sc := defScope s__law_open_run) (by decide +kernel)) (fun _ _ _ _ _ => (pg_name (i := 7) sc__law_open_run.nd rfl (Or.inl rfl))) (fun _ _ _ _ _ => pts_nil) (fun _ _ _ _ _ => (pe_op op_catA (pe_tup (pa_cons (pv 7) pa_nil)) (pe_dget hu (pv 10) (pv 7) (fun _ _ => rfl))))) pa_nil)) pa_nil))))
    pss_nil)))), ?_⟩
  refine start_B (N := N__law_open_run) Bg Tk hh ?_
  have R := ret_B q
  refine tr_par3 (by show 4 < 14; decide) (by show 5 < 14; decide) (by show 6 < 14; decide) (am_consD (Φ := dt (.dT (Z.1.map fun q => (kKK q.1, nD q.2)))) ((em_dictZ (F := Z.1) (ev_z0 (ev_var (t := stnTy Z) rfl)) hZn (by have := OZ.zl; omega)).ev fun m e => by rw [e]; rfl) (am_consD (Φ := fun t => ∃ kvs, t = .dT kvs ∧ ∀ s ∈ L.2, valD kvs (kKK (s.1, s.2.1)) = some (nD s.2.2)) (ev_callD (ts := [.im (lD L)]) (ea_cons (ev_var rfl) ea_nil) ⟨L, rfl, O, rfl⟩) (am_consM em_newT fun p m e => am_nil))) fun ts l ⟨t1, r1, e1, e2, t2, r2, e3, ⟨sok, e4, hsok⟩, pp, m, r3, l3, e5, e6, e7, e8, e9⟩ => ?_
  subst e9 e8 e7 e6 e5 e4 e3 e2 e1
  refine ⟨_, _, _, rfl, ?_⟩
  refine tr_asgM (by show 10 < 14; decide) (em_dictP (ts := Z.2.map fun u => (u.1, prD u)) ((ev_lcE (as := Z.2) (f := tD) (h := tqD) (c := fun _ => true) (e := fun u => (u.1, prD u)) (srcT (ev_z1 (ev_var (t := stnTy Z) rfl))) (by have := OZ.nl; omega) fun H1 Bs D acc a _ => ⟨_, _, bd_tup (bds_cons (bd_name (by show 7 < 14; decide)) (bds_cons (bd_name (by show 8 < 14; decide)) (bds_cons (bd_name (by show 9 < 14; decide)) bds_nil))), by decide, rfl, rfl, ?_, fun _ => ?_⟩).eq ?_) ?_) fun pt m e => ?_
  · exact et_or (b := true) (et_test (ev_opD (ev_var (t := .im .none) rfl) ev_non (rd_isN (b := true) (.inl ⟨rfl, rfl⟩)))) (fun e => by cases e)
  · exact ev_tup2 (ev_var (t := .im (nD a.1)) rfl) (ev_tup2 (ev_var (t := .im (nD a.2.1)) rfl) (ev_var (t := .im (sD a.2.2)) rfl))
  · rw [List.filter_eq_self.mpr (fun _ _ => rfl)]
    rfl
  · rw [List.map_map]
    exact OZ.nm
  subst e
  have hrem : rem Z.2 ≤ 6000 := by
    have h1 := rem_le (n := 60) fun u m => (OZ.ps u m).rl
    have h2 := OZ.nl
    omega
  refine tr_for (src_rng1 (n := (rem Z.2 : Nat) + 1) (ea_cons (ev_opD (ev_lockI (n := (rem Z.2 : Nat)) fun H1 od vs h1 h2 h3 => ?_) ev_int rd_i0) ea_nil) (by omega) (by omega)).p
    (fun _ i s => ∃ (ts : List Trn) (ps : List Key2) (pk : List (List Key × PyData)) (t7 t8 t9 t11 t12 t13 : Ty), Rch L Z ts ps ∧ KS pk ps ∧ rem ts + i ≤ rem Z.2 ∧ s = ⟨[.rf b, .im (lD L), stnTy Z, .im .none, .dT (Z.1.map fun q => (kKK q.1, nD q.2)), .dT sok, .rf pp, t7, t8, t9, .rf pt, t11, t12, t13], [(pt, .dK (trD ts)), (pp, .dT pk)], some (b, c)⟩)
    (fun _ _ _ => ⟨Z.2, [], [], .any, .any, .any, .any, .any, .any, .start OZ, .nil, by omega, rfl⟩) (fun _ _ _ ⟨_, _, _, _, _, _, _, _, _, _, _, _, e⟩ => by subst e; rfl) ?_ ?_
  · refine ev_cbD (ea_cons ((ev_lcM (as := Z.2) (f := prD) (h := PyData.int) (e := fun u => (u.2.2.length : Int)) (src_valsE h1 h2 rfl h3) (by have := OZ.nl; omega) fun H2 Bs D acc a _ => ⟨_, _, bd_tup (bds_cons (bd_name (by show 8 < 14; decide)) (bds_cons (bd_name (by show 9 < 14; decide)) bds_nil)), by decide, rfl, rfl, (ev_lenT (ds := a.2.2.map nD) (ev_var rfl)).eq (by rw [List.length_map])⟩)) ea_nil) ?_
    rw [← rem_int]
    exact rc_sum
  · rintro n ty ⟨rfl, rfl⟩ H1 Bs i s hi ⟨ts, ps, pk, t7, t8, t9, t11, t12, t13, hR, hK, hr, rfl⟩
    refine ⟨_, _, bd_name (by show 11 < 14; decide), ?_⟩
    refine tr_asgD (by show 12 < 14; decide) ev_int ?_
    have hnm := RunEnd.names hR
    have hnd : (ts.map (·.1)).Nodup := by
      rw [hnm]
      exact OZ.nm
    have htl : ts.length ≤ 100 := by
      rw [hR.len]
      exact OZ.nl
    refine tr_for (srcP_list (Φ := fun t => ∃ ns : List Nm, ns.Perm (ts.map (·.1)) ∧ t = .im (.list (ns.map nD))) (Ψ := fun m ty => ∃ ns : List Nm, ns.Perm (ts.map (·.1)) ∧ m = ns.length ∧ ∀ i a, ns[i]? = some a → ty i = .im (nD a)) (ev_draw (Ψ := dt2 [.im (.list (((ts.map (·.1)).mergeSort (leD nD)).map nD))]) rfl (ev_var rfl) (ea_cons (ev_sortDK (dk_mineK rfl) (trD_keys ts) (by rw [List.length_map]; omega)) ea_nil) ?_) ?_)
      (fun ty j s => ∃ (us : List Trn) (qs : List Key2) (pk : List (List Key × PyData)) (g : Nat) (t7 t8 t9 t13 : Ty), Rch L Z us qs ∧ KS pk qs ∧ rem us + g = rem ts ∧ (g = 0 → us = ts ∧ qs = ps ∧ ∀ k n, k < j → ty k = .im (nD n) → ∀ u ∈ ts, u.1 = n → Shut L Z ps u) ∧ s = ⟨[.rf b, .im (lD L), stnTy Z, .im .none, .dT (Z.1.map fun q => (kKK q.1, nD q.2)), .dT sok, .rf pp, t7, t8, t9, .rf pt, .im (.int i), .im (.int g), t13], [(pt, .dK (trD us)), (pp, .dT pk)], some (b, c)⟩)
      (fun _ _ _ => ⟨ts, ps, pk, 0, t7, t8, t9, t13, hR, hK, rfl, fun _ => ⟨rfl, rfl, fun k n h => absurd h (Nat.not_lt_zero _)⟩, rfl⟩) (fun _ _ _ ⟨_, _, _, _, _, _, _, _, _, _, _, _, e⟩ => by subst e; rfl) ?_ ?_
    · rintro ts' rfl
      refine ⟨_, ⟨_, rfl, by rw [List.length_map, List.length_mergeSort, List.length_map]; omega, rfl⟩, fun t ⟨es, hp, e⟩ => ?_⟩
      obtain ⟨ns, h1, h2⟩ := perm_map_inv hp
      exact ⟨ns, h1.trans (List.mergeSort_perm _ _), by rw [e, h2]⟩
    · rintro t ⟨ns, hp, rfl⟩
      exact ⟨_, rfl, ns, hp, by rw [List.length_map], fun i a h => congrArg Ty.im (getD_map nD h)⟩
    · rintro m ty ⟨ns, hnp, rfl, hty⟩ H2 Bs2 j s hj ⟨us, qs, pk, gn, t7, t8, t9, t13, hU, hK, hg, hz, rfl⟩
      have hna : ns[j]? = some ns[j] := List.getElem?_eq_getElem hj
      generalize ns[j] = na at hna
      rw [hty j na hna]
      refine ⟨_, _, bd_name (by show 7 < 14; decide), ?_⟩
      have hun := RunEnd.names hU
      have hund : (us.map (·.1)).Nodup := by
        rw [hun]
        exact OZ.nm
      have hnam : na ∈ us.map (·.1) := by
        rw [hun, ← hnm]
        exact hnp.mem_iff.mp (List.mem_of_getElem? hna)
      obtain ⟨u, hu, rfl⟩ := List.mem_map.mp hnam
      obtain ⟨iu, hiu⟩ := List.getElem?_of_mem hu
      have hPu : PsOk L u := by
        have hiz : iu < Z.2.length := by
          rw [← hU.len]
          exact (List.getElem?_eq_some_iff.mp hiu).1
        obtain ⟨k, h1, _⟩ := hU.tr iu Z.2[iu] (List.getElem?_eq_getElem hiz)
        rw [hiu] at h1
        cases h1
        exact (OZ.ps _ (List.getElem_mem _)).adv k
      have hql : qs.length ≤ 100 := Nat.le_trans (hU.small OZ) O.sl
      have hpl : pk.length ≤ 100 := by
        have := congrArg List.length hK.ky
        rw [List.length_map, List.length_map] at this
        omega
      have hul : us.length ≤ 100 := by
        rw [hU.len]
        exact OZ.nl
      refine tr_asgTD (ev_dgetK (d := prD u) (dk_mineK rfl) (ev_var rfl) (trD_val hund hu)) (bd_tup (bds_cons (bd_name (by show 8 < 14; decide)) (bds_cons (bd_name (by show 9 < 14; decide)) bds_nil))) ?_
      -- what is said of a train that stands still
      have still : Shut L Z qs u → (gn = 0 → us = ts ∧ qs = ps ∧ ∀ k n, k < j + 1 → ty k = .im (nD n) → ∀ u ∈ ts, u.1 = n → Shut L Z ps u) := fun hs h0 => by
        obtain ⟨rfl, rfl, h3⟩ := hz h0
        refine ⟨rfl, rfl, fun k n hk hkn v hv hvn => ?_⟩
        by_cases hkj : k = j
        · subst hkj
          rw [hty k _ hna] at hkn
          injection hkn with hkn
          have e1 : u.1 = n := encS.inj hkn
          have e2 : v = u := by
            obtain ⟨iv, hiv⟩ := List.getElem?_of_mem hv
            have a1 : (us.map (·.1))[iv]? = some u.1 := by rw [List.getElem?_map, hiv, e1, ← hvn]; rfl
            have a2 : (us.map (·.1))[iu]? = some u.1 := by rw [List.getElem?_map, hiu]; rfl
            have := nodup_at hund a1 a2
            subst this
            rw [hiu] at hiv
            exact (Option.some.inj hiv).symm
          rw [e2]
          exact hs
        · exact h3 k n (by omega) hkn v hv hvn
      cases hrest : u.2.2 with
      | nil =>
        refine tr_ifD (b := false) ((et_and (b := true) (et_test (ev_neE encSs (a := []) (b := []) (ev_var rfl) ev_tup0)) fun e => absurd rfl (ndec_t e.symm)).eq (by simp)) (fun e => by cases e) fun _ => ?_
        exact tr_next fun σ H S => ⟨_, ⟨us, qs, pk, gn, _, _, _, _, hU, hK, hg, still (fun r rs e => by rw [hrest] at e; cases e), rfl⟩, S⟩
      | cons r rs =>
        refine tr_ifD (b := true) ((et_and (b := true) (et_test (ev_neE encSs (a := r :: rs) (b := []) (ev_var rfl) ev_tup0)) fun _ => et_or (b := true) (et_test (ev_opD (ev_var (t := .im .none) rfl) ev_non (rd_isN (b := true) (.inl ⟨rfl, rfl⟩)))) (fun e => by cases e)).eq (by simp)) (fun _ => ?_) fun e => by cases e
        have hp0 : (u.2.1, r) ∈ passesOf u := by
          unfold passesOf
          rw [hrest]
          exact List.mem_cons_self
        obtain ⟨so, hso⟩ := hPu.wk _ hp0
        have hso : sortOf L (keyOf u.2.1 r) = some so := hso
        have hkk : keyP (keyOf u.2.1 r) = keyOf u.2.1 r := keyOf_idem _ _
        refine tr_asgD (t := .im (kD (keyOf u.2.1 r))) (by show 13 < 14; decide) (ev_c (ts := [.im (nD u.2.1), .im (nD r)]) (ea_cons (ev_var rfl) (ea_cons (ev_head (f := nD) (a := r) (as := rs) (ev_var (t := .im (sD (r :: rs))) rfl)) ea_nil)) ⟨u.2.1, r, rfl, rfl⟩) ?_
        refine tr_ifD (b := openB L Z qs u.2.1 r) ?_ (fun ho => ?_) fun ho => ?_
        · by_cases hfree : so = freeN
          · refine (et_or (b := true) (et_test (ev_eqE encS (a := so) (b := freeN) (ev_dgetT (n := keyOf u.2.1 r) (dk_dataT (ev_var rfl)) (ev_var rfl) (sok_val hsok hkk hso)) ev_str)) fun e => absurd hfree (of_decide_eq_false e)).eq ?_
            unfold openB
            rw [hso, hfree]
            simp
          · obtain ⟨sa, hsa⟩ := OZ.sx _ so hkk hso hfree
            refine (et_or (et_test (ev_eqE encS (a := so) (b := freeN) (ev_dgetT (n := keyOf u.2.1 r) (dk_dataT (ev_var rfl)) (ev_var rfl) (sok_val hsok hkk hso)) ev_str)) fun _ => et_or (et_B (ev_dinT (n := keyOf u.2.1 r) (kvs := pk) (ev_var rfl) (dk_mineT rfl))) fun _ => et_test (ev_eqE encS (a := sa) (b := u.2.1) (ev_dgetT (n := keyOf u.2.1 r) (dk_dataT (ev_var rfl)) (ev_var rfl) (stk_val hZn rfl hsa)) (ev_var rfl))).eq ?_
            unfold openB
            rw [hso, hsa, decide_eq_false hfree]
            have e1 : (valD pk (kKK (keyOf u.2.1 r))).isSome = decide (keyOf u.2.1 r ∈ qs) := by
              rw [Bool.eq_iff_iff, valD_iff, hK.mem, decide_eq_true_iff]
            rw [e1]
            have e2 : decide (some so = some freeN) = false := decide_eq_false fun z => hfree (Option.some.inj z)
            have e3 : decide (some sa = some u.2.1) = decide (sa = u.2.1) := dec_iff ⟨fun z => Option.some.inj z, fun z => by rw [z]⟩
            rw [e2, e3]
            simp
        · refine tr_swap (tr_dputT (n := keyOf u.2.1 r) rfl (by omega) ev_bl (ev_var rfl) fun t et => ⟨_, et, tr_swap ?_⟩)
          refine tr_dputK (Φ := dt (.im (prD (u.1, r, rs)))) (n := u.1) rfl (by unfold trD; rw [List.length_map, List.length_map]; omega) (ev_tup2 (ev_head (f := nD) (a := r) (as := rs) (ev_var (t := .im (sD (r :: rs))) rfl)) (ev_tail (f := nD) (a := r) (as := rs) (ev_var (t := .im (sD (r :: rs))) rfl))) (ev_var rfl) fun t et => ⟨_, et, ?_⟩
          rw [trD_set hund hiu]
          refine tr_aug (a := gn) (b := 1) (by show 12 < 14; decide) rfl ev_int ?_
          have hre := rem_set (u' := (u.1, r, rs)) hiu
          have hre : rem (us.set iu (u.1, r, rs)) + u.2.2.length = rem us + rs.length := hre
          rw [hrest, List.length_cons] at hre
          exact tr_next fun σ H S => ⟨_, ⟨us.set iu (u.1, r, rs), _, _, gn + 1, _, _, _, _, hU.move hiu hrest ho, hK.put _ _, by omega, (fun h => by omega), rfl⟩, S⟩
        · exact tr_next fun σ H S => ⟨_, ⟨us, qs, pk, gn, _, _, _, _, hU, hK, hg, still (fun r' rs' e => by rw [hrest] at e; cases e; exact ho), rfl⟩, S⟩
    · rintro m ty ⟨ns, hnp, rfl, hty⟩ s ⟨us, qs, pk, gn, t7, t8, t9, t13, hU, hK, hg, hz, rfl⟩
      refine tr_ifD (et_test (ev_eqE encI (a := (gn : Int)) (b := 0) (ev_var rfl) ev_int)) (fun e => ?_) fun e => ?_
      · have hg0 : gn = 0 := by
          have := of_decide_eq_true e
          omega
        obtain ⟨rfl, rfl, h3⟩ := hz hg0
        have hE : RunEnd L Z us qs := ⟨hU, fun u hu => by
          obtain ⟨k, hk⟩ := List.getElem?_of_mem (hnp.mem_iff.mpr (List.mem_map.mpr ⟨u, hu, rfl⟩))
          exact h3 k u.1 (List.getElem?_eq_some_iff.mp hk).1 (hty k _ hk) u hu rfl⟩
        refine tr_brk ?_
        have hund : (us.map (·.1)).Nodup := hnd
        generalize hsn : (us.map (·.1)).mergeSort (leD nD) = sn
        have hsnp : sn.Perm (us.map (·.1)) := by
          rw [← hsn]
          exact List.mergeSort_perm _ _
        have hfx : ∀ n ∈ sn, ∃ u ∈ us, u.1 = n ∧ (us.find? fun u => decide (u.1 = n)) = some u := fun n hn => by
          obtain ⟨u, hu, e⟩ := List.mem_map.mp (hsnp.mem_iff.mp hn)
          obtain ⟨j, hj⟩ := List.getElem?_of_mem hu
          exact ⟨u, hu, e, by rw [← e]; exact find_nodup (f := us) hund (o := u.1) (p := u.2) hj⟩
        have hsl : sn.length ≤ 100 := by
          rw [hsnp.length_eq, List.length_map]
          exact htl
        refine tr_frz (i := 10) rfl (tr_frz (i := 6) rfl ?_)
        refine tr_retR (R.later (Bs)) (ev_runP (us := sn.map fun n => (us.find? fun u => decide (u.1 = n)).getD (n, n, [])) (ev_var (t := .dT pk) rfl) (ev_tupL (ev_lcM (as := sn) (f := nD) (h := tD) (e := fun n => (us.find? fun u => decide (u.1 = n)).getD (n, n, [])) (srcL ((ev_sortDK (dk_dataK (ev_var rfl)) (trD_keys us) (by rw [List.length_map]; omega)).eq (by rw [hsn]))) (by omega) fun H1 Bs D acc a ha => ?_))) fun t et => ⟨_, us, qs, hE, ?_, et⟩
        · obtain ⟨u, hu, e1, e2⟩ := hfx a ha
          refine ⟨_, _, bd_name (by show 7 < 14; decide), by decide, rfl, rfl, ?_⟩
          rw [e2]
          refine ((ev_opD (ev_tup1 (ev_var (t := .im (nD a)) rfl)) (ev_dgetK (d := prD u) (dk_dataK (ev_var rfl)) (ev_var (t := .im (nD a)) rfl) (by rw [← e1]; exact trD_val hund hu)) (rd_catT (by show 1 + 2 ≤ 100000; decide))).eq ?_)
          rw [← e1]
          rfl
        · have hidx : ∀ n ∈ sn, ((us.find? fun u => decide (u.1 = n)).getD (n, n, [])).1 = n ∧ ((us.find? fun u => decide (u.1 = n)).getD (n, n, [])) ∈ us := fun n hn => by
            obtain ⟨u, hu, e1, e2⟩ := hfx n hn
            rw [e2]
            exact ⟨e1, hu⟩
          have hn1 : (sn.map fun n => (us.find? fun u => decide (u.1 = n)).getD (n, n, [])).map (·.1) = sn := by
            rw [List.map_map]
            conv => rhs; rw [← List.map_id sn]
            exact List.map_congr_left fun n hn => (hidx n hn).1
          have hn2 : (sn.map fun n => (us.find? fun u => decide (u.1 = n)).getD (n, n, [])).Nodup := by
            refine List.Pairwise.of_map (S := fun a b => a ≠ b) (fun u : Trn => u.1) (fun a b h e => h (congrArg (fun u : Trn => u.1) e)) ?_
            rw [hn1]
            exact hsnp.nodup_iff.mpr hund
          have hn3 : us.Nodup := List.Pairwise.of_map (S := fun a b => a ≠ b) (fun u : Trn => u.1) (fun a b h e => h (congrArg (fun u : Trn => u.1) e)) hund
          refine perm_mem hn2 hn3 fun u => ⟨fun m => ?_, fun m => ?_⟩
          · obtain ⟨n, hn, rfl⟩ := List.mem_map.mp m
            exact (hidx n hn).2
          · refine List.mem_map.mpr ⟨u.1, hsnp.mem_iff.mpr (List.mem_map.mpr ⟨u, m, rfl⟩), ?_⟩
            obtain ⟨j, hj⟩ := List.getElem?_of_mem m
            rw [find_nodup (f := us) hund (o := u.1) (p := u.2) hj]
            rfl
      · have hg1 : gn ≠ 0 := fun z => by
          have := of_decide_eq_false e
          omega
        exact tr_next fun σ H S => ⟨_, ⟨us, qs, pk, _, _, _, _, _, _, hU, hK, by omega, rfl⟩, S⟩
  · rintro n ty ⟨rfl, rfl⟩ s ⟨ts, ps, pk, t7, t8, t9, t11, t12, t13, hR, hK, hr, rfl⟩
    omega
end
end Sx
set_option Elab.async false
set_option linter.all false
set_option maxRecDepth 100000
set_option maxHeartbeats 1000000
/-! The dict of the neighbours: a list of mine for each name, a dict of mine that holds them. -/
namespace Sx
open PySem PySem.Spec PyProof.Rows L2 PySem.W
/-- the lists of mine -/
abbrev lsN (rs : List (Nm × Addr)) (F : Nm → List Nm) : List (Addr × MO) := rs.map fun q => (q.2, MO.lst ((F q.1).map nD))
abbrev dcN (rs : List (Nm × Addr)) : MO := .pr fun _ o => o = HO.dK (rs.map fun q => (kN q.1, V.ref q.2))
abbrev mlN (p : Addr) (rs : List (Nm × Addr)) (F : Nm → List Nm) : List (Addr × MO) := (p, dcN rs) :: lsN rs F
section
variable {H0 H H' H2 : Hp} {x : List Addr} {ss : SS} {σ : L2.St} {K : PySem.W.Frag}
theorem Sat.none0 (S : Sat H0 x ss σ H) {p : Addr} (hp : H p = none) : H0 p = none := by
  cases z : H0 p with
  | none => rfl
  | some o =>
    by_cases hb : p ∈ ss.bm
    · obtain ⟨c, hc⟩ := bm_iff.mp hb
      obtain ⟨⟨_, s0, s1, s2, cs, e3, _⟩, _⟩ := S.bg p c hc
      rw [e3] at hp
      cases hp
    · rw [S.fr p o hb z] at hp
      cases hp
/-- new empty lists become mine -/
theorem Sat.adopt (S : Sat H0 x ss σ H) (e : Same H H2) {rs : List (Nm × Addr)} (hn : (rs.map (·.2)).Nodup) (hr : ∀ q ∈ rs, H q.2 = none ∧ H2 q.2 = some (.lst [])) : Sat H0 x { ss with l := lsN rs (fun _ => []) ++ ss.l } σ H2 := by
  have hm1 : ∀ a, a ∈ (lsN rs (fun _ => []) ++ ss.l).map (·.1) ↔ a ∈ rs.map (·.2) ∨ a ∈ ss.l.map (·.1) := fun a => by
    rw [List.map_append, List.mem_append, List.map_map]
    rfl
  have hfr : ∀ a, a ∈ rs.map (·.2) → H a = none := fun a m => by
    obtain ⟨q, hq, rfl⟩ := List.mem_map.mp m
    exact (hr q hq).1
  have hS : Same (hid (ss.M x) H) (hid (({ ss with l := lsN rs (fun _ => []) ++ ss.l } : SS).M x) H2) := fun a o h => by
    obtain ⟨n, h⟩ := hid_some h
    rw [hid_out fun z => ?_]
    · exact e _ _ h
    · rcases List.mem_append.mp z with z | z
      · rcases (hm1 a).mp z with z | z
        · rw [hfr a z] at h
          cases h
        · exact n (List.mem_append_left _ z)
      · exact n (List.mem_append_right _ z)
  refine ⟨fun a o n h => e _ _ (S.fr a o n h), fun q hq => ?_, ?_, fun b c h => ?_, S.tx, fun i t h => ?_, S.ln⟩
  · rcases List.mem_append.mp hq with z | z
    · obtain ⟨r, hr1, rfl⟩ := List.mem_map.mp z
      obtain ⟨h1, h2⟩ := hr r hr1
      exact ⟨S.none0 h1, [], h2, .nil⟩
    · obtain ⟨h1, h2⟩ := S.ls q z
      refine ⟨h1, MO.mono hS ?_ h2⟩
      cases y : H q.1 with
      | none => exact absurd y (MO.some h2)
      | some o => exact e _ _ y
  · show ((lsN rs (fun _ => []) ++ ss.l).map (·.1)).Nodup
    rw [List.map_append, List.nodup_append, List.map_map]
    refine ⟨hn, S.nd, fun a m b m2 y => ?_⟩
    subst y
    have h1 := hfr a m
    obtain ⟨q, hq, rfl⟩ := List.mem_map.mp m2
    exact MO.some (S.ls q hq).2 h1
  · obtain ⟨h1, h2, h3⟩ := S.bg b c h
    exact ⟨h1.mono e, h2, h3⟩
  · rcases S.vr i t h with z | ⟨v, h1, h2⟩
    · exact .inl z
    · exact .inr ⟨v, h1, Ty.mono hS h2⟩
/-- nothing is mine any more -/
theorem Sat.drops : ∀ {l : List (Addr × MO)} {g : List Ty} {b : Option (Addr × Addr)}, Sat H0 x ⟨g, l, b⟩ σ H → Sat H0 x ⟨g, [], b⟩ σ H ∧ ∀ q ∈ l, q.2.holds (hid ((⟨g, [], b⟩ : SS).M x) H) (hid ((⟨g, [], b⟩ : SS).M x) H) q.1
  | [], _, _, S => ⟨S, fun q m => by cases m⟩
  | (p, m) :: l, g, b, S => by
    obtain ⟨S1, _, h⟩ := S.unmine (ss := ⟨g, [], b⟩)
    obtain ⟨S2, k⟩ := Sat.drops S1
    refine ⟨S2, fun q hq => ?_⟩
    rcases List.mem_cons.mp hq with z | z
    · subst z
      have hs : Same (hid (({ (⟨g, [], b⟩ : SS) with l := l } : SS).M x) H) (hid ((⟨g, [], b⟩ : SS).M x) H) := hid_sub fun a m => List.mem_append_right _ m
      refine MO.mono hs ?_ h
      cases y : hid (({ (⟨g, [], b⟩ : SS) with l := l } : SS).M x) H p with
      | none => exact absurd y (MO.some h)
      | some o => exact hs _ _ y
    · exact k q z
/-- the dict as data -/
theorem kv_drops {Hv : Hp} {rs : List (Nm × Addr)} {F : Nm → List Nm} (h : ∀ q ∈ lsN rs F, q.2.holds Hv Hv q.1) : KvOk Hv (rs.map fun q => (kN q.1, V.ref q.2)) (rs.map fun q => (kN q.1, PyData.list ((F q.1).map nD))) := by
  induction rs with
  | nil => trivial
  | cons r rs ih =>
    obtain ⟨vs, h1, h2⟩ := h (r.2, .lst ((F r.1).map nD)) List.mem_cons_self
    exact ⟨rfl, .lst h1 h2, ih fun q m => h q (List.mem_cons_of_mem _ m)⟩
theorem perm_mid {α : Type} {a b : List α} {q : α} : (q :: (a ++ b)).Perm (a ++ q :: b) := List.perm_middle.symm
/-- d[a].append(b) -/
def updF (F : Nm → List Nm) (a b : Nm) : Nm → List Nm := fun c => if c = a then F c ++ [b] else F c
theorem tr_appN {g : List Ty} {p : Addr} {rs : List (Nm × Addr)} {F : Nm → List Nm} {a b : Nm} {i j k : Nat} {u : TS} {D : Ends} (hn : (rs.map (·.1)).Nodup) (ha : a ∈ rs.map (·.1)) (hl : ∀ c, (F c).length < 100000)
    (hi : g[i]? = some (.rf p)) (hj : g[j]? = some (.im (nD a))) (hk : g[k]? = some (.im (nD b))) (kk : Tr H0 x ⟨g, mlN p rs (updF F a b), none⟩ u D) :
    Tr H0 x ⟨g, mlN p rs F, none⟩ (tSeq (tDrop (tBM K "list" rAppend (tDGet (tVar i) (tVar j)) (tCons (tVar k) tNil))) u) D := fun σ H S => by
  obtain ⟨q, hq, hqa⟩ := List.mem_map.mp ha
  obtain ⟨r1, r2, hrs⟩ := List.append_of_mem hq
  have S' : Sat H0 x ⟨g, (q.2, .lst ((F q.1).map nD)) :: ((p, dcN rs) :: lsN r1 F ++ lsN r2 F), none⟩ σ H := S.perm (by
    show ((q.2, .lst ((F q.1).map nD)) :: ((p, dcN rs) :: lsN r1 F ++ lsN r2 F)).Perm ((p, dcN rs) :: lsN rs F)
    rw [hrs]
    show ((q.2, MO.lst ((F q.1).map nD)) :: ((p, dcN (r1 ++ q :: r2)) :: lsN r1 F ++ lsN r2 F)).Perm ((p, dcN (r1 ++ q :: r2)) :: lsN (r1 ++ q :: r2) F)
    unfold lsN
    rw [List.map_append, List.map_cons]
    exact perm_mid (a := (p, dcN (r1 ++ q :: r2)) :: lsN r1 F) (b := lsN r2 F))
  obtain ⟨v, e1, e2⟩ := (S.vr i _ hi).resolve_left (fun z => nomatch z)
  have e2 : v = .ref p := e2
  subst e2
  obtain ⟨w, f1, f2⟩ := (S.vr j _ hj).resolve_left (fun z => nomatch z)
  have f2 : Dq _ w (nD a) := f2
  obtain ⟨y, y1, y2⟩ := (S'.vr k _ hk).resolve_left (fun z => nomatch z)
  obtain ⟨_, o, ho, _, ho2⟩ := S.ls (p, dcN rs) List.mem_cons_self
  have ho2 := ho2 _ (Same.refl _)
  subst ho2
  obtain ⟨_, vs, hv, hds⟩ := S'.ls (q.2, .lst ((F q.1).map nD)) List.mem_cons_self
  have hval : valV (rs.map fun q => (kN q.1, V.ref q.2)) (kN a) = some (.ref q.2) := by
    rw [← hqa]
    unfold valV
    have : ∀ {l : List (Nm × Addr)}, (l.map (·.1)).Nodup → q ∈ l → (l.map fun q => (kN q.1, V.ref q.2)).find? (fun z => decide (z.1 = kN q.1)) = some (kN q.1, V.ref q.2) := fun {l} => by
      induction l with
      | nil => intro _ m; cases m
      | cons r l ih =>
        intro nd m
        rw [List.map_cons, List.nodup_cons] at nd
        rw [List.map_cons]
        by_cases z : kN r.1 = kN q.1
        · rw [List.find?_cons_of_pos (by exact decide_eq_true z)]
          rcases List.mem_cons.mp m with m | m
          · rw [m]
          · exact absurd (List.mem_map.mpr ⟨q, m, (kN_inj z).symm⟩) nd.1
        · rw [List.find?_cons_of_neg (by simpa using z)]
          rcases List.mem_cons.mp m with m | m
          · rw [m] at z
            exact absurd rfl z
          · exact ih nd.2 m
    rw [this hn hq]
    rfl
  refine ⟨.ref p, e1, w, f1, p, .ref q.2, rfl, ?_, .inl ⟨rfl, vs, .inl (.inl hv)⟩, y, y1, q.2, vs, y, rfl, rfl, hv, ?_, ?_⟩
  · rw [← hval]
    exact DGetK ho (dp_mono same_hid f2)
  · rw [dps_len hds, List.length_map]
    exact Nat.lt_trans (hl _) (by decide)
  · have S2 := (S'.chg (ss := ⟨g, [], none⟩) (m' := .lst ((F q.1 ++ [b]).map nD)) (o := .lst (vs ++ [y])) ⟨vs ++ [y], upd_same, by
      rw [List.map_append]
      exact dps_app hds (.cons y2 .nil)⟩).1
    refine kk σ _ (S2.perm ?_)
    rw [hrs, List.map_append, List.map_cons, List.nodup_append, List.nodup_cons] at hn
    have h1 : lsN r1 (updF F a b) = lsN r1 F := List.map_congr_left fun z hz => by
      unfold updF
      rw [if_neg fun e => hn.2.2 z.1 (List.mem_map.mpr ⟨z, hz, rfl⟩) q.1 List.mem_cons_self (by rw [e, hqa])]
    have h2 : lsN r2 (updF F a b) = lsN r2 F := List.map_congr_left fun z hz => by
      unfold updF
      rw [if_neg fun e => hn.2.1.1 (List.mem_map.mpr ⟨z, hz, by rw [e, hqa]⟩)]
    have h3 : updF F a b q.1 = F q.1 ++ [b] := by
      unfold updF
      rw [if_pos hqa]
    have h4 : mlN p rs (updF F a b) = (p, dcN rs) :: lsN r1 F ++ (q.2, MO.lst ((F q.1 ++ [b]).map nD)) :: lsN r2 F := by
      rw [← h1, ← h2, ← h3]
      show (p, dcN rs) :: lsN rs (updF F a b) = (p, dcN rs) :: lsN r1 (updF F a b) ++ (q.2, MO.lst ((updF F a b q.1).map nD)) :: lsN r2 (updF F a b)
      rw [show lsN rs (updF F a b) = lsN r1 (updF F a b) ++ (q.2, MO.lst ((updF F a b q.1).map nD)) :: lsN r2 (updF F a b) by
        unfold lsN
        rw [hrs, List.map_append, List.map_cons]]
      rfl
    rw [h4]
    exact perm_mid.symm
/-- dict([(n, []) for n in names]) -/
theorem near_new {wi : TI} {ns : List Nm} {j : Nat} (hs : Src H0 x ss wi ns.length (fun i => .im ((ns.map nD).getD i .none))) (hj : j < ss.g.length) (hn : ns.Nodup) (hl : ns.length ≤ 1000) {Q : VK} (S : Sat H0 x ss σ H)
    (q : ∀ p rs H', rs.map (·.1) = ns → Sat H0 x { ss with l := mlN p rs (fun _ => []) ++ ss.l } σ H' → Q (.ref p) H') :
    tCB (rcDictP K) (tCons (tLc wi (gName j) tYes (tTup (tCons (tVar j) (tCons (tLst tNil) tNil))) [j]) tNil) σ H Q := by
  refine hs σ H S _ fun J H' Y S1 e w y D hD => ?_
  refine lc_it w (fun i H2 => ∃ rs : List (Nm × Addr × Addr), rs.map (·.1) = ns.take i ∧ Same H' H2 ∧ H2 D = some (.lst (rs.map fun q => V.ref q.2.1)) ∧ (rs.map (·.2.2)).Nodup ∧ ∀ q ∈ rs, H2 q.2.1 = some (.tup [.str q.1.1, .ref q.2.2]) ∧ H' q.2.2 = none ∧ H2 q.2.2 = some (.lst []))
    ⟨[], by rw [List.take_zero]; rfl, same_new hD, upd_same, List.Pairwise.nil, fun q m => by cases m⟩ (fun i H2 _ q2 => ?_) (fun i v H2 H3 hi q2 yy => ?_) fun H2 q2 => ?_
  · obtain ⟨rs, _, e2, _⟩ := q2
    exact same_hid.trans e2
  · obtain ⟨rs, h1, e2, h2, h3, h4⟩ := q2
    obtain ⟨e3, hv⟩ := y i H2 v H3 (ss.M x) hi (hid_mono e2) (S1.trk.mono e2) yy
    have hx : ns[i]? = some ns[i] := List.getElem?_eq_getElem hi
    have hv : Dq (hid (ss.M x) H3) v ((ns.map nD).getD i .none) := hv
    rw [List.getD_eq_getElem?_getD, List.getElem?_map, hx] at hv
    have hv : Dq (hid (ss.M x) H3) v (.str ns[i].1) := hv
    have hvs : v = .str ns[i].1 := by
      cases hv
      rfl
    subst hvs
    have hln : (wipe σ [j]).length = σ.length := wipe_length σ [j]
    refine ⟨?_, ?_⟩
    · rw [wipe_eq (σ1 := (wipe σ [j]).set j (some (.str ns[i].1))) (σ2 := wipe σ [j]) (fun k n => List.getElem?_set_ne (fun z => n (by rw [z]; exact List.mem_singleton.mpr rfl))) (List.length_set ..)]
      exact wipe_wipe σ [j]
    · unfold tYes
      dsimp only
      rw [if_pos rfl]
      refine ⟨_, List.getElem?_set_self (by rw [hln, S1.ln]; exact hj), Nat.zero_le _, fun l hll => ⟨by show 2 ≤ sizeLine; decide, fun p hp => ?_⟩⟩
      have e4 : Same H3 (upd H3 l (.lst [])) := same_new hll
      have e5 : Same (upd H3 l (.lst [])) (upd (upd H3 l (.lst [])) p (.tup [.str ns[i].1, .ref l])) := same_new hp
      have e6 := (e3.trans e4).trans e5
      have hl0 : H' l = none := by
        cases z : H' l with
        | none => rfl
        | some o =>
          rw [e3 _ _ (e2 _ _ z)] at hll
          cases hll
      have hlD : l ≠ D := fun z => by
        rw [z, e3 _ _ h2] at hll
        cases hll
      have hpD : p ≠ D := fun z => by
        rw [z, e4 _ _ (e3 _ _ h2)] at hp
        cases hp
      have hpl : l ≠ p := fun z => by
        rw [← z, upd_same] at hp
        cases hp
      have hlen : rs.length ≤ i := by
        have := congrArg List.length h1
        rw [List.length_map, List.length_take] at this
        omega
      refine ⟨rs.map fun q => V.ref q.2.1, e6 _ _ h2, ?_, rs ++ [(ns[i], p, l)], ?_, ?_, ?_, ?_, ?_⟩
      · rw [List.length_map]
        exact Nat.lt_of_le_of_lt (show rs.length ≤ 1000 by omega) (by decide)
      · rw [List.map_append, h1, List.take_succ, hx]
        rfl
      · exact fun a o h => by
          rw [upd_ne (ne_of_none h hD)]
          exact e6 _ _ (e2 _ _ h)
      · rw [upd_same, List.map_append]
        rfl
      · rw [List.map_append, List.nodup_append]
        refine ⟨h3, List.nodup_cons.mpr ⟨fun m => (by cases m), List.Pairwise.nil⟩, fun a m b m2 z => ?_⟩
        have m2 : b = l := List.mem_singleton.mp m2
        rw [z, m2] at m
        obtain ⟨q, hq, hql⟩ := List.mem_map.mp m
        have := e3 _ _ (h4 q hq).2.2
        rw [hql, hll] at this
        cases this
      · intro q hq
        rcases List.mem_append.mp hq with m | m
        · obtain ⟨k1, k2, k3⟩ := h4 q m
          refine ⟨?_, k2, ?_⟩
          · rw [upd_ne fun z => by rw [z, h2] at k1; cases k1]
            exact e6 _ _ k1
          · rw [upd_ne fun z => by
              rw [z, h2] at k3
              have k4 : rs.map (fun q => V.ref q.2.1) = [] := by
                injection k3 with k3
                injection k3
              rw [List.map_eq_nil_iff.mp k4] at m
              cases m]
            exact e6 _ _ k3
        · have m : q = (ns[i], p, l) := List.mem_singleton.mp m
          subst m
          refine ⟨?_, hl0, ?_⟩
          · rw [upd_ne hpD]
            exact upd_same
          · rw [upd_ne hlD]
            exact e5 _ _ upd_same
  · obtain ⟨rs, h1, e2, h2, h3, h4⟩ := q2
    rw [List.take_length] at h1
    have hk : ((([] : List (Key × V)) ++ rs.map fun q => (kN q.1, V.ref q.2.2)).map fun q => q.1).Nodup := by
      rw [List.nil_append, List.map_map]
      have e0 : (rs.map ((fun q => q.1) ∘ fun q : Nm × Addr × Addr => (kN q.1, V.ref q.2.2))) = (rs.map (·.1)).map kN := by
        rw [List.map_map]
        rfl
      rw [e0, h1]
      exact (List.pairwise_map).mpr (List.Pairwise.imp (fun hne he => hne (kN_inj he)) hn)
    refine ⟨D, rs.map (·.2.1), rs.map fun q => (kN q.1, V.ref q.2.2), rfl, .inl (.inl (by rw [h2, List.map_map]; rfl)), ?_, fun p hp => ?_⟩
    · have : ∀ l : List (Nm × Addr × Addr), (∀ q ∈ l, H2 q.2.1 = some (.tup [.str q.1.1, .ref q.2.2])) → Paired (fun p kv => SqT K H2 p [kV kv.1, kv.2]) (l.map (·.2.1)) (l.map fun q => (kN q.1, V.ref q.2.2)) := fun l => by
        induction l with
        | nil => exact fun _ => .nil
        | cons r l ih => exact fun h => .cons (.inl (.inl (h r List.mem_cons_self))) (ih fun q m => h q (List.mem_cons_of_mem _ m))
      exact this rs fun q m => (h4 q m).1
    · rw [mergeK_nodup hk, List.nil_append]
      have S2 := S1.adopt (rs := rs.map fun q : Nm × Addr × Addr => (q.1, q.2.2)) e2 (by rw [List.map_map]; exact h3) fun q m => by
        obtain ⟨r, hr, rfl⟩ := List.mem_map.mp m
        exact (h4 r hr).2
      obtain ⟨S3, _⟩ := S2.mine (m := dcN (rs.map fun q : Nm × Addr × Addr => (q.1, q.2.2))) (o := .dK (rs.map fun q => (kN q.1, V.ref q.2.2))) hp fun M => ⟨_, upd_same, fun _ z => (nomatch z), fun _ _ => by rw [List.map_map]; rfl⟩
      exact q p (rs.map fun q : Nm × Addr × Addr => (q.1, q.2.2)) _ (by rw [List.map_map]; exact h1) S3
end
end Sx
set_option Elab.async false
set_option linter.all false
set_option maxRecDepth 100000
set_option maxHeartbeats 4000000
namespace Sx
open PySem PySem.Spec PyProof.Rows L2
open C8 (Cal pe_c)
def nearF (secs : List Sec) (a : Nm) : List Nm := (secs.map fun s => (s.1, s.2.1)).flatMap (nbOne a)
theorem nearF_snoc {secs : List Sec} {s : Sec} : nearF (secs ++ [s]) = updF (updF (nearF secs) s.1 s.2.1) s.2.1 s.1 := by
  funext a
  have h1 : nearF (secs ++ [s]) a = nearF secs a ++ nbOne a (s.1, s.2.1) := by
    unfold nearF
    rw [List.map_append, List.flatMap_append]
    show _ ++ (nbOne a (s.1, s.2.1) ++ []) = _
    rw [List.append_nil]
  rw [h1]
  unfold updF nbOne
  by_cases z1 : a = s.1
  · by_cases z2 : a = s.2.1
    · rw [if_pos z1, if_pos z2, if_pos z1.symm, if_pos z2.symm, List.append_assoc]
    · rw [if_pos z1, if_neg z2, if_pos z1.symm, if_neg (fun e => z2 e.symm), List.append_nil]
  · by_cases z2 : a = s.2.1
    · rw [if_neg z1, if_pos z2, if_neg (fun e => z1 e.symm), if_pos z2.symm, List.nil_append]
    · rw [if_neg z1, if_neg z2, if_neg (fun e => z1 e.symm), if_neg (fun e => z2 e.symm), List.append_nil, List.append_nil]
theorem nearF_len (secs : List Sec) (a : Nm) : (nearF secs a).length ≤ 2 * secs.length := by
  have := flat_len (nbOne_len a) (secs.map fun s => (s.1, s.2.1))
  rwa [List.length_map] at this
theorem near_ok {L : Lin} (O : LinOk L) {rs : List (Nm × Addr)} (h : rs.map (·.1) = L.1) : NearOk L (rs.map fun q => (kN q.1, PyData.list ((nearF L.2 q.1).map nD))) := by
  refine ⟨fun a ha => ⟨nearF L.2 a, ?_, ?_, fun b => ?_⟩⟩
  · rw [← h] at ha
    obtain ⟨q, hq, rfl⟩ := List.mem_map.mp ha
    refine valD_at ?_ (List.mem_map.mpr ⟨q, hq, rfl⟩)
    rw [List.map_map]
    have e0 : rs.map ((fun q => q.1) ∘ fun q : Nm × Addr => (kN q.1, PyData.list ((nearF L.2 q.1).map nD))) = (rs.map (·.1)).map kN := by
      rw [List.map_map]
      rfl
    rw [e0, h]
    exact (List.pairwise_map).mpr (List.Pairwise.imp (fun hne he => hne (kN_inj he)) O.st)
  · have h1 := nearF_len L.2 a
    have h2 := O.sl
    omega
  · unfold nbrs
    rw [List.mem_mergeSort]
    rfl
section
variable {H0 : Hp} {x : List Addr} {ss : SS} {K : PySem.W.Frag} {u : TS} {D : Ends}
theorem tr_near {wi : TI} {ns : List Nm} {i j : Nat} (hs : Src H0 x ss wi (ns.map nD).length (fun i => .im ((ns.map nD).getD i .none))) (hj : j < ss.g.length) (hi : i < ss.g.length) (hn : ns.Nodup) (hl : ns.length ≤ 1000) (h0 : ss.l = [])
    (k : ∀ p rs, rs.map (·.1) = ns → Tr H0 x ⟨ss.g.set i (.rf p), mlN p rs (fun _ => []), ss.b⟩ u D) :
    Tr H0 x ss (tSeq (tAsg (tCB (rcDictP K) (tCons (tLc wi (gName j) tYes (tTup (tCons (tVar j) (tCons (tLst tNil) tNil))) [j]) tNil)) (gName i)) u) D := fun σ H S => by
  rw [List.length_map] at hs
  refine near_new hs hj hn hl S fun p rs H' hrs S' => ?_
  rw [h0, List.append_nil] at S'
  exact k p rs hrs _ _ (S'.st (ss := ⟨ss.g, mlN p rs (fun _ => []), ss.b⟩) (t := .rf p) hi rfl)
/-- the dict is handed back -/
theorem tr_retNr {g : List Ty} {p : Addr} {rs : List (Nm × Addr)} {F : Nm → List Nm} {i : Nat} {Φ : Ty → Prop} (R : Ret H0 x none Φ D.rt) (hi : g[i]? = some (.rf p)) (k : Φ (.dK (rs.map fun q => (kN q.1, PyData.list ((F q.1).map nD))))) : Tr H0 x ⟨g, mlN p rs F, none⟩ (tSeq (tRet (tVar i)) u) D :=
  tr_ret (Φ := fun t => t = .rf p) (ev_var hi) fun σ t v H e S h => by
    subst e
    have h : v = .ref p := h
    subst h
    obtain ⟨S2, h2⟩ := S.drops
    obtain ⟨o, ho, _, ho2⟩ := h2 (p, dcN rs) List.mem_cons_self
    have ho2 := ho2 _ (Same.refl _)
    subst ho2
    exact R _ _ _ _ _ S2 rfl k ⟨p, _, rfl, ho, kv_drops fun q m => h2 q (List.mem_cons_of_mem _ m)⟩
end
section
variable {P : Program} {w : World} {K : PySem.W.Frag} {mg : Str → Option Value} {base : Heap}
abbrev s__law_near : Stmt := topS 40
abbrev N__law_near : List Str := ["_law_line_here", "_law_found", "_law_one", "_law_other", "_law_sort", "_law_station"]
theorem sc__law_near : FnScope N__law_near ["_law_line_here"] (defScope s__law_near) := ⟨rfl, rfl, rfl, by decide +kernel, rfl, by decide +kernel, by decide +kernel⟩
theorem bd__law_near (B : Bl mg)  : Bod P w K mg base N__law_near "_law_near" s__law_near 0 sp__law_near := fun f cdv A outer s H vs Q E hr h => by
  have hu := hu_of hr
  obtain ⟨x, ts, Φ, ⟨L, rfl, O, rfl⟩, T, hh, q⟩ := h
  refine ⟨_, (pss_cons (ps_set (i := 1) sc__law_near.nd rfl (Or.inl rfl) (pe_callTy (call_dictP rfl) (by rfl) B.m_dict (by decide +kernel) (pa_cons (pe_lc (own := [("_law_station", 5)]) (g := (gName 5)) (tt := tYes) (te := (tTup (tCons (tVar 5) (tCons (tLst tNil) tNil)))) rfl sc__law_near.nd (pi_tup (pe_ix ix_tup (pv 0) pe_int (fun _ _ => rfl))) (blkOk_by (own := [("_law_station", 5)]) (N := N__law_near) (sc := defScope s__law_near) (by decide +kernel)) (fun _ _ _ _ _ => (pg_name (i := 5) sc__law_near.nd rfl (Or.inl rfl))) (fun _ _ _ _ _ => pts_nil) (fun _ _ _ _ _ => (pe_tup (pa_cons (pv 5) (pa_cons (pe_lst pa_nil) pa_nil))))) pa_nil)))
    (pss_cons (ps_for PassesOwn.never rfl (pi_tup (pe_ix ix_tup (pv 0) pe_int (fun _ _ => rfl))) (pg_tup rfl (pgs_cons (pg_name (i := 2) sc__law_near.nd rfl (Or.inl rfl)) (pgs_cons (pg_name (i := 3) sc__law_near.nd rfl (Or.inl rfl)) (pgs_cons (pg_name (i := 4) sc__law_near.nd rfl (Or.inl rfl)) pgs_nil))))
      (pss_cons (ps_expr (pe_bm PySem.F.plainAttrs_list PySem.F.slot_list_append PySem.F.type_list_append mt_append (pe_dget hu (pv 1) (pv 2) (fun _ _ => rfl)) (pa_cons (pv 3) pa_nil)))
      (pss_cons (ps_expr (pe_bm PySem.F.plainAttrs_list PySem.F.slot_list_append PySem.F.type_list_append mt_append (pe_dget hu (pv 1) (pv 3) (fun _ _ => rfl)) (pa_cons (pv 2) pa_nil)))
      pss_nil)))
    (pss_cons (ps_ret (pv 1))
    pss_nil))), ?_⟩
  refine start_F (N := N__law_near) T hh ?_
  have R := ret_F q
  refine tr_near (ns := L.1) (src_tup (ev_ixT (ev_var (t := .im (lD L)) rfl))) (by show 5 < 6; decide) (by show 1 < 6; decide) O.st (by have := O.sn; omega) rfl fun p rs hrs => ?_
  have hnr : (rs.map (·.1)).Nodup := by
    rw [hrs]
    exact O.st
  refine tr_for (src_tup (ds := L.2.map cD) (ev_ixT (ev_var (t := .im (lD L)) rfl))).p
    (fun _ i s => ∃ t2 t3 t4 t5 : Ty, s = ⟨[.im (lD L), .rf p, t2, t3, t4, t5], mlN p rs (nearF (L.2.take i)), none⟩)
    (fun _ _ _ => ⟨.any, .any, .any, .any, rfl⟩) (fun _ _ _ ⟨_, _, _, _, e⟩ => by subst e; rfl) ?_ ?_
  · rintro n ty ⟨rfl, rfl⟩ H1 Bs i s hi ⟨t2, t3, t4, t5, rfl⟩
    rw [List.length_map] at hi
    have hs : L.2[i]? = some L.2[i] := List.getElem?_eq_getElem hi
    generalize L.2[i] = c at hs
    have hm := List.mem_of_getElem? hs
    show ∃ ws s', Bd H1 x _ _ (Ty.im ((L.2.map cD).getD i .none)) ws s' ∧ Tr H1 x s' _ _
    rw [congrArg Ty.im (getD_map cD hs)]
    refine ⟨_, _, bd_tup (bds_cons (bd_name (by show 2 < 6; decide)) (bds_cons (bd_name (by show 3 < 6; decide)) (bds_cons (bd_name (by show 4 < 6; decide)) bds_nil))), ?_⟩
    have hlen : ∀ a, (nearF (L.2.take i) a).length ≤ 200 := fun a => by
      have h1 := nearF_len (L.2.take i) a
      have h2 := O.sl
      have h3 := List.length_take_le i L.2
      have h4 := List.length_take_le' i L.2
      omega
    refine tr_appN (a := c.1) (b := c.2.1) hnr (by rw [hrs]; exact (O.en c hm).1) (fun a => by have := hlen a; omega) rfl rfl rfl ?_
    refine tr_appN (a := c.2.1) (b := c.1) hnr (by rw [hrs]; exact (O.en c hm).2) (fun a => by
      have := hlen a
      unfold updF
      split
      · rw [List.length_append, List.length_singleton]
        omega
      · omega) rfl rfl rfl ?_
    have e : nearF (L.2.take (i + 1)) = updF (updF (nearF (L.2.take i)) c.1 c.2.1) c.2.1 c.1 := by
      rw [List.take_succ, hs]
      exact nearF_snoc
    exact tr_goI rfl ⟨.im (nD c.1), .im (nD c.2.1), .im (nD c.2.2), t5, by rw [e]; rfl⟩
  · rintro n ty ⟨rfl, rfl⟩ s ⟨t2, t3, t4, t5, rfl⟩
    rw [List.length_map, List.take_length]
    exact tr_retNr R rfl ⟨_, rfl, near_ok O hrs⟩
end
end Sx
set_option Elab.async false
set_option linter.all false
set_option maxRecDepth 100000
set_option maxHeartbeats 1000000
/-! Defs that need to know that nothing is being shown (repr asks for it). -/
namespace Sx
open PySem PySem.Spec PyProof.Rows L2
/-- a def under its name, called where no repr runs -/
structure CalG (P : Program) (w : World) (K : PySem.W.Frag) (mg : Str → Option Value) (base : Heap) (k : Nat) (x : Str) (sp : Sp) : Prop where
  ex : ∃ (f : Addr) (fd : FuncData) (ps : List Str), (∀ vs H Q E, sp vs H Q E → vs.length = ps.length) ∧
    (∀ (A : Around) (outer : List Env) (s : Shared) (H : Hp) (args : Args) (us : List Value) (vs : List V) (Q : VK) (E : XK), A.guards = some [] → Room k A → Env0 P w K mg base A outer s H → BindsTo s fd args (ps.zip us) → Vals vs us → sp vs H Q E →
      codeAny (model P w) A (.call (.ref f) args) (CR CX0 outer P w H s Q E) s) ∧ mg x = some (.ref f) ∧ PySem.W.keepIn K (.ref f) = true ∧ Binds K fd ps []
/-- a def's body, read where no repr runs -/
def BodG (P : Program) (w : World) (K : PySem.W.Frag) (mg : Str → Option Value) (base : Heap) (N : List Str) (x : Str) (st : Stmt) (k : Nat) (sp : Sp) : Prop :=
  ∀ (f : Addr) (cdv : Value) (A : Around) (outer : List Env) (s : Shared) (H : Hp) (vs : List V) (Q : VK) (E : XK), (A.deeper (envOfC x (defScope st) s.heap.objs.size f cdv)).guards = some [] → Room k (A.deeper (envOfC x (defScope st) s.heap.objs.size f cdv)) → sp vs H Q E →
      ∃ t, PSs (cxOf CX0 P w K mg base N x (defScope st) f cdv A outer s H E).nox (defBody st) t ∧ t { nx := fun _ H' => Q .non H', rt := Q } (start N vs) H
theorem deeper_guards {A : Around} (env : Env) (h : A.guards = some []) : (A.deeper env).guards = some [] := h
section
variable {X : Cx} {k j : Nat} {sp : Sp} {x : Str} {p pos : Pos} {e : Expr} {es : List Expr} {t : TA}
theorem pe_cG (c : CalG X.prog X.w X.K X.mg X.base k x sp) (hg0 : X.A.guards = some []) (hr : Room j X.A) (hk : k ≤ j) (hg : Gl X x) (ha : PA X (e :: es) t)
    (hdb : (x == ("__debug__" : Str)) = false := by decide) (he : starEach (e :: es) X.env = (false, eval e X.env) :: starEach es X.env := by rfl) (hpl : (backTo pos (starEach es X.env)).any (·.1) = false := by rfl) :
    PE X (.Call (.Name x p) (e :: es) [] pos) (tCall sp [] E0 t) := by
  obtain ⟨f, fd, ps, len, run, hm, kp, b⟩ := c.ex
  constructor
  intro pn s0 σ H Q I h
  refine wpAny_Call_Name_kw (ld_glob I hg hm (PySem.W.callWith_K (h₀ := X.base) I.ok.mod.kin kp (thn (ha.run pos pn s0 σ H _ I h) fun us s1 ⟨vs, H1, I1, r1, w1⟩ => ⟨I1.kIn, ?_⟩) he hpl) hdb)
  have w1 : sp (vs ++ []) H1 Q E0 := w1
  rw [List.append_nil] at w1
  have n1 : us.length = ps.length := by rw [← r1.length]; exact len _ _ _ _ w1
  have bind := b s1 us I1.kIn (by rw [List.append_nil]; exact n1)
  rw [List.append_nil] at bind
  refine wpAny_call (codeAny_mono (run X.A X.stack s1 H1 ⟨us, []⟩ us vs Q E0 hg0 (hr.mono hk) I1.env0 bind r1 w1) fun r s2 hq => ?_)
  cases r with
  | error ex => exact pass0 pn σ H1 s1 ex s2 I1 hq
  | ok fl =>
    cases fl with
    | ret u => exact I1.after hq
    | _ => exact hq.elim
end
section
variable {P : Program} {w : World} {K : PySem.W.Frag} {mg : Str → Option Value} {base : Heap}
theorem runG {x : Str} {st : Stmt} {f : Addr} {fd : FuncData} {N ps : List Str} {k : Nat} {sp : Sp} (F : C8.Def K mg x st f fd) (S : FnScope N ps (C8.fnScope st)) (len : ∀ vs H Q E, sp vs H Q E → vs.length = ps.length) (body : BodG P w K mg base N x st k sp)
    (A : Around) (outer : List Env) (s : Shared) (H : Hp) (args : Args) (us : List Value) (vs : List V) (Q : VK) (E : XK) (g0 : A.guards = some []) (hr : Room (k + 1) A) (e0 : Env0 P w K mg base A outer s H) (hb : BindsTo s fd args (ps.zip us)) (r : Vals vs us) (hsp : sp vs H Q E) :
    codeAny (model P w) A (.call (.ref f) args) (CR CX0 outer P w H s Q E) s := by
  obtain ⟨oc, od, dV, kV, doc, pm, an, cdv, ct, osl, rfl, lk, hcd⟩ := F.fn.ex
  have n1 := len _ _ _ _ hsp
  have inK : K.In s.heap := e0.mod.kin.keeps fun b o e => (e0.bs b o e).1
  have noLimit : s.heap.NoLimit := e0.mod.nolimit.keeps fun b o e => (e0.bs b o e).1
  have places : ∀ y ∈ ps.zip us, (C8.fnScope st).names.lookup y.1 = some .local ∨ ((C8.fnScope st).names.lookup y.1 = some .cell ∧ ((cellsFrom (s.heap.objs.size + 1) (C8.fnScope st).names []).lookup y.1).isSome = true) := fun y my =>
    (S.par y.1 (List.of_mem_zip (a := y.1) (b := y.2) my).1).imp id fun c => ⟨c, PySem.W.cellsFrom_some _ _ _ (.inl c)⟩
  refine codeAny_call_function hr.depth (inK _ _ lk) rfl S.co S.gen rfl (PySem.W.codeRec_of inK hcd) (hb _ _ _ _ (wpAny_newFunctionEnv_cells S.kind places fun env he s1 x1 => ?_))
  subst he
  refine ⟨noLimit.keeps x1.toInCall.keep, codeAny_func ?_⟩
  obtain ⟨t, ht, hq⟩ := body f cdv A outer s H vs Q E (deeper_guards _ g0) (hr.deeper _) hsp
  refine wpAny_mono (ht.nox.run [] s1 (start N vs) H _ (inv_start S hr.hd e0 n1 r x1) hq) (fun fl s2 hs => ?_) fun ex s2 hs => hs
  cases fl with
  | ret u =>
    obtain ⟨v, σ2, H2, J, rv, q⟩ := hs
    exact ⟨v, H2, J.os, J.bare, J.base, J.hok, rv, q⟩
  | next =>
    obtain ⟨σ2, H2, J, q⟩ := hs
    exact ⟨V.non, H2, J.os, J.bare, J.base, J.hok, rfl, q⟩
  | brk => exact hs.choose_spec.choose_spec.2.elim
  | cont => exact hs.choose_spec.choose_spec.2.elim
theorem calG {x : Str} {st : Stmt} {f : Addr} {fd : FuncData} {N ps : List Str} {k : Nat} {sp : Sp} (F : C8.Def K mg x st f fd) (b : Binds K fd ps []) (S : FnScope N ps (C8.fnScope st)) (len : ∀ vs H Q E, sp vs H Q E → vs.length = ps.length) (body : BodG P w K mg base N x st k sp) : CalG P w K mg base (k + 1) x sp :=
  ⟨f, fd, ps, len, fun A outer s H args us vs Q E g0 hr e0 hb r hsp => runG F S len body A outer s H args us vs Q E g0 hr e0 hb r hsp, F.mgf, F.kp, b⟩
end
end Sx
set_option Elab.async false
set_option linter.all false
set_option maxRecDepth 100000
set_option maxHeartbeats 1000000
/-! repr of data. -/
namespace Sx
open PySem PySem.Spec PyProof.Rows L2 PySem.W
def rRepr : List V → Hp → VK → Prop := fun xs H Q => ∃ (M : List Addr) (a : Addr) (d : PyData), xs = [.ref a] ∧ Dq (hid M H) (.ref a) d ∧ d.showable = true ∧ d.hasDict = false ∧ d.depth ≤ 40 ∧ d.shown.length ≤ sizeLine ∧ Q (.str d.shown) H
theorem cr_repr {X : Cx} (hg : X.A.guards = some []) (hu : X.A.units + 65 < cLine) : CallR X (.builtin "repr") rRepr := by
  intro pins s σ H xs us Q I r h
  obtain ⟨M, a, d, rfl, hd, hs, hnd, hdep, hsz, q⟩ := h
  rw [Vals.ref1 r]
  obtain ⟨as, hr⟩ := Dp.reads I d (.ref a) (.ref a) (dp_mono same_hid hd).dp rfl
  refine PySem.repr_of_reads' (h₀ := s.heap) hr hs (fun e => by rw [hnd] at e; cases e) hg (by omega) (fun _ _ e => e) (fun h' u tk k => ?_) hsz
  exact ⟨.str d.shown, H, I.kept (t' := tk) k, ⟨u, rfl⟩, q⟩
end Sx
set_option Elab.async false
set_option linter.all false
set_option maxRecDepth 100000
set_option maxHeartbeats 1000000
/-! Data that is shown. -/
namespace Sx
open PySem PySem.Spec PyProof.Rows L2 PySem.W
structure Shw (d : PyData) (n m : Nat) : Prop where
  sh : d.showable = true
  hd : d.hasDict = false
  is : d.intsShort 13 = true
  we : d.weight ≤ n
  cl : d.canLay0 = true
  dp : d.depth ≤ m
structure ShwA (ds : List PyData) (n m : Nat) : Prop where
  sh : PyData.showableAll ds = true
  hd : PyData.hasDictAll ds = false
  is : PyData.intsShortAll 13 ds = true
  we : PyData.weightAll ds ≤ n
  cl : PyData.canLayAll0 ds = true
  dp : PyData.depthAll ds ≤ m
theorem ShwA.nil {m : Nat} : ShwA [] 0 m := ⟨rfl, rfl, rfl, Nat.le_refl _, rfl, Nat.zero_le _⟩
theorem ShwA.cons {d : PyData} {ds : List PyData} {n k m : Nat} (a : Shw d n m) (b : ShwA ds k m) : ShwA (d :: ds) (n + 1 + k) m :=
  ⟨by simp only [PyData.showableAll, a.sh, b.sh, Bool.and_self], by simp only [PyData.hasDictAll, a.hd, b.hd, Bool.or_self], by simp only [PyData.intsShortAll, a.is, b.is, Bool.and_self], by
    simp only [PyData.weightAll]
    have := a.we
    have := b.we
    omega, by simp only [PyData.canLayAll0, a.cl, b.cl, Bool.and_self], by
    simp only [PyData.depthAll]
    exact Nat.max_le.mpr ⟨a.dp, b.dp⟩⟩
theorem shw_map {α : Type} {f : α → PyData} {n m : Nat} (h : ∀ a, Shw (f a) n m) : ∀ as : List α, ShwA (as.map f) (as.length * (n + 1)) m
  | [] => by
    rw [List.length_nil, Nat.zero_mul]
    exact .nil
  | a :: as => by
    rw [List.length_cons, Nat.succ_mul, Nat.add_comm]
    exact ShwA.cons (h a) (shw_map h as)
theorem ShwA.tup {ds : List PyData} {n m : Nat} (h : ShwA ds n m) : Shw (.tuple ds) n (m + 1) :=
  ⟨by simp only [PyData.showable, h.sh], by simp only [PyData.hasDict, h.hd], by simp only [PyData.intsShort, h.is], by simp only [PyData.weight]; exact h.we, by simp only [PyData.canLay0, h.cl], by
    simp only [PyData.depth]
    have := h.dp
    omega⟩
theorem ShwA.lst {ds : List PyData} {n m : Nat} (h : ShwA ds n m) : Shw (.list ds) n (m + 1) :=
  ⟨by simp only [PyData.showable, h.sh], by simp only [PyData.hasDict, h.hd], by simp only [PyData.intsShort, h.is], by simp only [PyData.weight]; exact h.we, by simp only [PyData.canLay0, h.cl], by
    simp only [PyData.depth]
    have := h.dp
    omega⟩
theorem Shw.up {d : PyData} {n m k j : Nat} (h : Shw d n m) (h1 : n ≤ k) (h2 : m ≤ j) : Shw d k j := ⟨h.sh, h.hd, h.is, Nat.le_trans h.we h1, h.cl, Nat.le_trans h.dp h2⟩
theorem shw_nm (a : Nm) : Shw (nD a) 24 0 := ⟨rfl, rfl, rfl, by
  show PyData.weight (.str a.1) ≤ 24
  simp only [PyData.weight]
  exact a.2.2, by simp only [PyData.canLay0]; exact a.2.1, by simp only [PyData.depth]; exact Nat.le_refl _⟩
theorem shw_k (k : Key2) : Shw (kD k) 50 1 := (ShwA.cons (shw_nm k.1) (ShwA.cons (shw_nm k.2) .nil)).tup.up (by decide) (by decide)
theorem shw_keys {ks : List Key2} (h : ks.length ≤ 200) : Shw (.tuple (ks.map kD)) 10200 2 := (shw_map shw_k ks).tup.up (by omega) (by decide)
theorem shw_b (b : Bool) {m : Nat} : Shw (.bool b) 0 m := ⟨rfl, rfl, rfl, Nat.le_refl _, rfl, Nat.zero_le _⟩
theorem shw_non {m : Nat} : Shw .none 0 m := ⟨rfl, rfl, rfl, Nat.le_refl _, rfl, Nat.zero_le _⟩
theorem Shw.short {d : PyData} {n m : Nat} (h : Shw d n m) (hn : n ≤ 1000000) (hm : m ≤ 64) : d.shown.length ≤ sizeLine := by
  have h1 : PyData.layable0 d = true := by
    unfold PyData.layable0
    rw [h.cl, decide_eq_true (Nat.le_trans h.dp hm), decide_eq_true (Nat.le_trans h.we (Nat.le_trans hn (by decide)))]
    rfl
  exact Nat.le_trans (shown_le13 h1 h.is) (by decide)
end Sx
set_option Elab.async false
set_option linter.all false
set_option maxRecDepth 100000
set_option maxHeartbeats 4000000
namespace Sx
open PySem PySem.Spec PyProof.Rows L2
open C8 (Cal pe_c)
section
variable {K : PySem.W.Frag}
theorem rd_same {d : PyData} (h1 : SeqAt.shaped d = true) (h2 : PyData.eqv d d = true) : RD (rEqD K) (.im d) (.im d) (.im (.bool true)) := fun M x y H T hx hy Q q =>
  ⟨d, d, (dp_mono same_hid hx).dp, (dp_mono same_hid hy).dp, h1, h1, by
    rw [h2]
    exact q _ _ H rfl (Same.refl _) (.bl _)⟩
theorem rc_repr {ds : List PyData} {n : Nat} (h : Shw (.list ds) n 5) (hn : n ≤ 1000000) : RCl rRepr [.im (.list ds)] (fun z => z = .im (.str (PyData.list ds).shown)) := fun M vs H T hh Q q => by
  obtain ⟨v, rfl, h'⟩ := hold1 hh
  have h' : Dq (hid M H) v (.list ds) := h'
  obtain ⟨a, rfl⟩ : ∃ a, v = .ref a := by
    cases h'
    exact ⟨_, rfl⟩
  exact ⟨M, a, _, rfl, h', h.sh, h.hd, Nat.le_trans h.dp (by decide), h.short hn (by decide), q _ _ _ rfl (Same.refl _) (.str _)⟩
theorem rd_str (z : Str) : RD rEq (.im (.str z)) (.im (.str z)) (.im (.bool true)) := fun M x y H T hx hy Q q => by
  have hx : Dq (hid M H) x (.str z) := hx
  have hy : Dq (hid M H) y (.str z) := hy
  cases hx
  cases hy
  refine ⟨rfl, ?_⟩
  rw [decide_eq_true rfl]
  exact q _ (.bl true) H rfl (Same.refl _) (.bl true)
end
abbrev sp__law_alike : Sp := spF fun ts Φ => ∃ (ds : List PyData) (n : Nat), ts = [.im (.list ds), .im (.list ds)] ∧ Shw (.list ds) n 5 ∧ n ≤ 1000000 ∧ PyData.eqv (.list ds) (.list ds) = true ∧ SeqAt.shaped (.list ds) = true ∧ Φ = dt (.im (.bool true))
section
variable {P : Program} {w : World} {K : PySem.W.Frag} {mg : Str → Option Value} {base : Heap}
abbrev s__law_alike : Stmt := topS 37
abbrev N__law_alike : List Str := ["_law_found", "_law_due"]
theorem sc__law_alike : FnScope N__law_alike ["_law_found", "_law_due"] (defScope s__law_alike) := ⟨rfl, rfl, rfl, by decide +kernel, rfl, by decide +kernel, by decide +kernel⟩
theorem bd__law_alike (B : Bl mg)  : BodG P w K mg base N__law_alike "_law_alike" s__law_alike 0 sp__law_alike := fun f cdv A outer s H vs Q E hgd hr h => by
  have hu := hu_of hr
  obtain ⟨x, ts, Φ, ⟨ds, n, rfl, hw, hn, he, hs, rfl⟩, T, hh, q⟩ := h
  refine ⟨_, (pss_cons (ps_ret (pe_and (pe_cmpR (op_eqD hr.units) (pv 0) (pv 1) (nomark _)) (pe_one (pe_cmpR op_eq (pe_callB (cr_repr hgd hr.units1) (by rfl) B.m_repr (by decide +kernel) (pa_cons (pv 0) pa_nil)) (pe_callB (cr_repr hgd hr.units1) (by rfl) B.m_repr (by decide +kernel) (pa_cons (pv 1) pa_nil)) (nomark _)))))
    pss_nil), ?_⟩
  refine start_F (N := N__law_alike) T hh ?_
  have R := ret_F q
  exact tr_retE R (t := .im (.bool true)) (ev_andV (a := true) (b := true) (ev_opD (ev_var (t := .im (.list ds)) rfl) (ev_var (t := .im (.list ds)) rfl) (rd_same hs he)) fun _ => ev_opD (ev_cbD (ea_cons (ev_var (t := .im (.list ds)) rfl) ea_nil) (rc_repr hw hn)) (ev_cbD (ea_cons (ev_var (t := .im (.list ds)) rfl) ea_nil) (rc_repr hw hn)) (rd_str _)) rfl
end
end Sx
set_option Elab.async false
set_option linter.all false
set_option maxRecDepth 100000
set_option maxHeartbeats 4000000
/-! Plain laws: more never harms. -/
namespace Sx
open PySem L2 PySem.W
theorem Gone.sim {L L2 : Lin} {Z Z2 : Stn} (f : Trn → Trn) (hm : ∀ t ∈ Z.2, f t ∈ Z2.2) (hp : ∀ t ∈ Z.2, ∀ (k : Nat) p, (passesOf t)[k]? = some p → (passesOf (f t))[k]? = some p) (hb : ∀ p, baseOpen L Z p = true → baseOpen L2 Z2 p = true) {t : Trn} {k : Nat} (h : Gone L Z t k) : Gone L2 Z2 (f t) k := by
  induction h with
  | zero m => exact .zero (hm _ m)
  | base g h1 h2 ih => exact .base ih (hp _ g.mem _ _ h1) (hb _ h2)
  | key g h1 g2 h2 e ih ih2 => exact .key ih (hp _ g.mem _ _ h1) ih2 (hp _ g2.mem _ _ h2) e
theorem mem_withT {Z : Stn} {t u : Trn} : u ∈ (withT Z t).2 ↔ (u ∈ Z.2 ∧ u.1 ≠ t.1) ∨ u = t := by
  unfold withT
  rw [List.mem_mergeSort, List.mem_append, List.mem_filter, List.mem_singleton, Bool.not_eq_true', decide_eq_false_iff_not]
theorem base_withT (L : Lin) (Z : Stn) (t : Trn) (p : Key2) : baseOpen L (withT Z t) p = baseOpen L Z p := rfl
theorem name_uniq : ∀ {l : List Trn}, (l.map (·.1)).Nodup → ∀ {x y : Trn}, x ∈ l → y ∈ l → x.1 = y.1 → x = y
  | [], _, _, _, h, _, _ => by cases h
  | a :: l, nd, x, y, hx, hy, e => by
    rw [List.map_cons, List.nodup_cons] at nd
    rcases List.mem_cons.mp hx with h1 | h1 <;> rcases List.mem_cons.mp hy with h2 | h2
    · rw [h1, h2]
    · exact absurd (List.mem_map.mpr ⟨y, h2, by rw [← e, h1]⟩) nd.1
    · exact absurd (List.mem_map.mpr ⟨x, h1, by rw [e, h2]⟩) nd.1
    · exact name_uniq nd.2 h1 h2 e
/-- a train more -/
theorem home_new {L : Lin} {Z : Stn} {t u : Trn} (hn : t.1 ∉ Z.2.map (·.1)) (h : Home L Z u) : Home L (withT Z t) u :=
  Gone.sim (Z := Z) id (fun x m => mem_withT.mpr (.inl ⟨m, fun e => hn (List.mem_map.mpr ⟨x, m, e⟩)⟩)) (fun _ _ _ _ e => e) (fun p e => e) h
theorem pf_pre : ∀ (p : Nm) (rs ws : List Nm) (k : Nat) (q : Key2), (pf p rs)[k]? = some q → (pf p (rs ++ ws))[k]? = some q
  | _, [], _, _, _, h => by simp [pf] at h
  | p, r :: rs, ws, 0, q, h => h
  | p, r :: rs, ws, k + 1, q, h => by
    rw [pf, List.getElem?_cons_succ] at h
    show (pf p (r :: (rs ++ ws)))[k + 1]? = some q
    rw [pf, List.getElem?_cons_succ]
    exact pf_pre r rs ws k q h
/-- a longer walk of one train: the others lose nothing -/
theorem home_long {L : Lin} {Z : Stn} {t u : Trn} {ws : List Nm} (nd : (Z.2.map (·.1)).Nodup) (ht : t ∈ Z.2) (hu : u.1 ≠ t.1) (h : Home L Z u) : Home L (withT Z (t.1, t.2.1, t.2.2 ++ ws)) u := by
  have same : ∀ x ∈ Z.2, x.1 = t.1 → x = t := fun x hx e => name_uniq nd hx ht e
  have g := Gone.sim (L := L) (Z := Z) (L2 := L) (Z2 := withT Z (t.1, t.2.1, t.2.2 ++ ws)) (fun x => if x.1 = t.1 then (t.1, t.2.1, t.2.2 ++ ws) else x) (fun x hx => by
    by_cases e : x.1 = t.1
    · rw [if_pos e]
      exact mem_withT.mpr (.inr rfl)
    · rw [if_neg e]
      exact mem_withT.mpr (.inl ⟨hx, e⟩)) (fun x hx k p e => by
    by_cases e2 : x.1 = t.1
    · rw [if_pos e2]
      rw [same x hx e2] at e
      exact pf_pre _ _ _ _ _ e
    · rw [if_neg e2]
      exact e) (fun p e => e) (show Gone L Z u u.2.2.length from h)
  rw [if_neg hu] at g
  exact g
end Sx
set_option Elab.async false
set_option linter.all false
set_option maxRecDepth 100000
set_option maxHeartbeats 4000000
/-! Plain laws: the standing with a train more, a wider line. -/
namespace Sx
open PySem L2 PySem.W
theorem withT_ok {L : Lin} {Z : Stn} {t : Trn} {k j : Nat} (h : StnG L Z k) (hz : Z.2.length ≤ 10) (ht : TrnOk L t) (hl : t.2.2.length ≤ j) (hk : k ≤ j) : StnG L (withT Z t) j where
  st := h.st
  nm := by
    show ((((Z.2.filter fun u => !decide (u.1 = t.1)) ++ [t]).mergeSort (leD tD)).map (·.1)).Nodup
    rw [((List.mergeSort_perm ((Z.2.filter fun u => !decide (u.1 = t.1)) ++ [t]) (leD tD)).map (·.1)).nodup_iff, List.map_append, List.nodup_append]
    refine ⟨(List.filter_sublist.map _).nodup h.nm, List.nodup_cons.mpr ⟨(fun m => nomatch m), List.Pairwise.nil⟩, fun a m b m2 e => ?_⟩
    have m2 : b = t.1 := List.mem_singleton.mp m2
    obtain ⟨u, mu, rfl⟩ := List.mem_map.mp m
    have := (List.mem_filter.mp mu).2
    rw [e, m2, decide_eq_true rfl] at this
    cases this
  nl := by
    show (((Z.2.filter fun u => !decide (u.1 = t.1)) ++ [t]).mergeSort (leD tD)).length ≤ 11
    rw [List.length_mergeSort, List.length_append, List.length_singleton]
    have := List.length_filter_le (fun u : Trn => !decide (u.1 = t.1)) Z.2
    omega
  tr := fun u m => by
    rcases mem_withT.mp m with ⟨m, _⟩ | rfl
    · exact ⟨(h.tr u m).1, Nat.le_trans (h.tr u m).2 hk⟩
    · exact ⟨ht, hl⟩
end Sx
set_option Elab.async false
set_option linter.all false
set_option maxRecDepth 100000
set_option maxHeartbeats 4000000
/-! Plain laws: a wider line. -/
namespace Sx
open PySem L2 PySem.W
theorem sortOf_mem {L : Lin} {q : Key2} {x : Nm} (h : sortOf L q = some x) : ∃ c ∈ L.2, (c.1, c.2.1) = keyOf q.1 q.2 ∧ c.2.2 = x := by
  unfold sortOf at h
  obtain ⟨c, h1, h2⟩ := Option.map_eq_some_iff.mp h
  have h3 := List.find?_some h1
  have h4 := List.mem_of_find?_eq_some h1
  exact ⟨c, h4, of_decide_eq_true h3, h2⟩
theorem sortOf_of {L : Lin} (O : LinOk L) {c : Sec} {q : Key2} (hc : c ∈ L.2) (e : (c.1, c.2.1) = keyOf q.1 q.2) : sortOf L q = some c.2.2 := by
  unfold sortOf
  rw [← e, sec_of O hc]
  rfl
section
variable {L L' : Lin} {Z Z' : Stn} {i : Nat} {s : Sec} {so : Nm}
theorem Wider.keys (W : Wider L Z L' Z' i s so) : keysL L' = keysL L := by
  rw [W.ln]
  show (L.2.set i (s.1, s.2.1, so)).map (fun s => (s.1, s.2.1)) = L.2.map fun s => (s.1, s.2.1)
  rw [List.map_set]
  refine set_same ?_
  rw [List.getElem?_map, W.at_]
  rfl
theorem Wider.nbrs (W : Wider L Z L' Z' i s so) (a : Nm) : nbrs L' a = nbrs L a := by
  unfold Sx.nbrs
  rw [W.keys]
theorem Wider.mem (W : Wider L Z L' Z' i s so) {c : Sec} (h : c ∈ L'.2) : c ∈ L.2 ∨ c = (s.1, s.2.1, so) := by
  rw [W.ln] at h
  exact (List.mem_or_eq_of_mem_set h)
theorem Wider.new (W : Wider L Z L' Z' i s so) : (s.1, s.2.1, so) ∈ L'.2 := by
  rw [W.ln]
  exact List.mem_set (List.getElem?_eq_some_iff.mp W.at_).1 _
theorem Wider.old (W : Wider L Z L' Z' i s so) {c : Sec} (h : c ∈ L.2) : c ∈ L'.2 ∨ c = s := by
  obtain ⟨j, hj⟩ := List.getElem?_of_mem h
  by_cases e : i = j
  · subst e
    rw [W.at_] at hj
    exact .inr (Option.some.inj hj).symm
  · refine .inl ?_
    rw [W.ln]
    exact List.mem_of_getElem? (i := j) (by
      show (L.2.set i (s.1, s.2.1, so))[j]? = some c
      rw [List.getElem?_set_ne e]
      exact hj)
theorem Wider.lin (W : Wider L Z L' Z' i s so) (O : LinOk L) : LinOk L' := by
  have hs : s ∈ L.2 := List.mem_of_getElem? W.at_
  have e1 : L'.1 = L.1 := by rw [W.ln]
  refine ⟨by rw [e1]; exact O.ne, by rw [e1]; exact O.st, by rw [e1]; exact O.sn, ?_, fun c hc => ?_, fun c hc => ?_, by rw [W.keys]; exact O.kd, fun S a ha h1 h2 => ?_⟩
  · rw [W.ln]
    show (L.2.set i _).length ≤ 100
    rw [List.length_set]
    exact O.sl
  · rw [e1]
    rcases W.mem hc with h | rfl
    · exact O.en c h
    · exact O.en s hs
  · rcases W.mem hc with h | rfl
    · exact O.or c h
    · exact O.or s hs
  · rw [e1] at ha ⊢
    refine O.cn S a ha h1 fun x y hx hy => h2 x y hx ?_
    rw [W.nbrs]
    exact hy
theorem Wider.base (W : Wider L Z L' Z' i s so) (O : LinOk L) {p : Key2} (h : baseOpen L Z p = true) : baseOpen L' Z' p = true := by
  have O' := W.lin O
  have hs : s ∈ L.2 := List.mem_of_getElem? W.at_
  unfold baseOpen at h ⊢
  rw [Bool.or_eq_true, decide_eq_true_eq, decide_eq_true_eq] at h ⊢
  rcases h with h | h
  · obtain ⟨c, hc, e, e2⟩ := sortOf_mem h
    rcases W.old hc with h1 | rfl
    · left
      rw [sortOf_of O' h1 e, e2]
    · left
      rw [sortOf_of O' W.new e]
      rcases W.so_ with ⟨e3, _⟩ | e3
      · rw [e2] at e3
        exact absurd e3 (by decide)
      · rw [e3]
  · by_cases c : so = freeN ∧ (s.1, s.2.1) = keyOf (keyP p).1 (keyP p).2
    · left
      rw [sortOf_of O' W.new c.2, c.1]
    · right
      rw [W.sn]
      unfold staffOf at h ⊢
      have e : (Z.1.filter fun f => !decide (so = freeN) || !decide (f.1 = (s.1, s.2.1))).find? (fun f => decide (f.1 = keyP p)) = Z.1.find? fun f => decide (f.1 = keyP p) := by
        rw [List.find?_filter]
        congr 1
        funext f
        by_cases h1 : f.1 = keyP p
        · have h2 : ¬ (so = freeN ∧ f.1 = (s.1, s.2.1)) := fun ⟨a, b⟩ => c ⟨a, by
            rw [← h1, b]
            exact (O.or s hs).symm⟩
          rw [decide_eq_true h1]
          by_cases h3 : so = freeN
          · rw [decide_eq_false fun z => h2 ⟨h3, z⟩, Bool.not_false, Bool.or_true]
            rfl
          · rw [decide_eq_false h3]
            rfl
        · rw [decide_eq_false h1]
          exact decide_eq_false fun z => Bool.false_ne_true z.2
      show Option.map _ ((Z.1.filter fun f => !decide (so = freeN) || !decide (f.1 = (s.1, s.2.1))).find? fun f => decide (f.1 = keyP p)) = _
      rw [e]
      exact h
end
end Sx
set_option Elab.async false
set_option linter.all false
set_option maxRecDepth 100000
set_option maxHeartbeats 4000000
/-! Plain laws: the standing on a wider line. -/
namespace Sx
open PySem L2 PySem.W
section
variable {L L' : Lin} {Z Z' : Stn} {i : Nat} {s : Sec} {so : Nm}
theorem Wider.free (W : Wider L Z L' Z' i s so) (O : LinOk L) : freeK L' = (freeK L).filter fun k => !decide (so = freeN) || !decide (k = (s.1, s.2.1)) := by
  obtain ⟨hi, hs⟩ := List.getElem?_eq_some_iff.mp W.at_
  have e0 : L.2 = L.2.take i ++ s :: L.2.drop (i + 1) := by
    rw [← hs, List.getElem_cons_drop, List.take_append_drop]
  have e1 : L'.2 = L.2.take i ++ (s.1, s.2.1, so) :: L.2.drop (i + 1) := by
    rw [W.ln]
    show L.2.set i _ = _
    rw [List.set_eq_take_append_cons_drop, if_pos hi]
  have nd := O.kd
  unfold keysL at nd
  rw [e0, List.map_append, List.map_cons, List.nodup_append, List.nodup_cons] at nd
  have other : ∀ c, c ∈ L.2.take i ∨ c ∈ L.2.drop (i + 1) → (c.1, c.2.1) ≠ (s.1, s.2.1) := fun c hc e => by
    rcases hc with hc | hc
    · exact nd.2.2 _ (List.mem_map.mpr ⟨c, hc, rfl⟩) _ List.mem_cons_self e
    · exact nd.2.1.1 (e ▸ List.mem_map.mpr ⟨c, hc, rfl⟩)
  have keep : ∀ l : List Sec, (∀ c ∈ l, (c.1, c.2.1) ≠ (s.1, s.2.1)) → ((l.filter fun s => !decide (s.2.2 = freeN)).map fun s => (s.1, s.2.1)).filter (fun k => !decide (so = freeN) || !decide (k = (s.1, s.2.1))) = (l.filter fun s => !decide (s.2.2 = freeN)).map fun s => (s.1, s.2.1) := fun l hl =>
    List.filter_eq_self.mpr fun k hk => by
      obtain ⟨c, hc, rfl⟩ := List.mem_map.mp hk
      rw [decide_eq_false (hl c (List.mem_filter.mp hc).1), Bool.not_false, Bool.or_true]
  unfold freeK
  rw [e1]
  conv => rhs; rw [e0]
  generalize L.2.take i = A at other
  generalize L.2.drop (i + 1) = B at other
  rw [List.filter_append, List.filter_append, List.map_append, List.map_append, List.filter_append, keep A fun c hc => other c (.inl hc)]
  congr 1
  by_cases c : so = freeN
  · rw [List.filter_cons_of_neg (by rw [decide_eq_true (show (s.1, s.2.1, so).2.2 = freeN from c)]; decide)]
    by_cases d : s.2.2 = freeN
    · rw [List.filter_cons_of_neg (by rw [decide_eq_true d]; decide), keep B fun c hc => other c (.inr hc)]
    · rw [List.filter_cons_of_pos (by rw [decide_eq_false d]; rfl), List.map_cons, List.filter_cons_of_neg (by rw [decide_eq_true c, decide_eq_true rfl]; decide), keep B fun c hc => other c (.inr hc)]
  · have d : s.2.2 ≠ freeN := fun z => by
      rcases W.so_ with ⟨e, _⟩ | e
      · rw [z] at e
        exact absurd e (by decide)
      · exact c e
    rw [List.filter_cons_of_pos (by rw [decide_eq_false (show ¬ (s.1, s.2.1, so).2.2 = freeN from c)]; rfl), List.filter_cons_of_pos (by rw [decide_eq_false d]; rfl), List.map_cons, List.map_cons, List.filter_cons_of_pos (by rw [decide_eq_false c]; rfl), keep B fun c hc => other c (.inr hc)]
theorem Wider.stn (W : Wider L Z L' Z' i s so) (O : LinOk L) {k : Nat} (G : StnG L Z k) : StnG L' Z' k := by
  have e1 : L'.1 = L.1 := by rw [W.ln]
  have e2 : Z'.2 = Z.2 := by rw [W.sn]
  refine ⟨⟨?_, fun f hf => ?_⟩, by rw [e2]; exact G.nm, by rw [e2]; exact G.nl, fun u hu => ?_⟩
  · rw [W.free O, ← G.st.ky, W.sn, List.filter_map]
    rfl
  · rw [W.sn] at hf
    rw [e1]
    exact G.st.st f (List.mem_filter.mp hf).1
  · rw [e2] at hu
    obtain ⟨⟨h1, h2⟩, h3⟩ := G.tr u hu
    refine ⟨⟨by rw [e1]; exact h1, fun p hp => ?_⟩, h3⟩
    rw [W.nbrs]
    exact h2 p hp
theorem home_wide (W : Wider L Z L' Z' i s so) (O : LinOk L) {u : Trn} (h : Home L Z u) : Home L' Z' u :=
  Gone.sim (L := L) (Z := Z) id (fun x m => by rw [W.sn]; exact m) (fun _ _ _ _ e => e) (fun p e => W.base O e) h
end
end Sx
set_option Elab.async false
set_option linter.all false
set_option maxRecDepth 100000
set_option maxHeartbeats 4000000
/-! Plain laws: other names. -/
namespace Sx
open PySem L2 PySem.W
def reT (g : Nm → Nm) (t : Trn) : Trn := (g t.1, t.2)
def reZ (g : Nm → Nm) (Z : Stn) : Stn := (Z.1, (Z.2.map (reT g)).mergeSort (leD tD))
section
variable {L : Lin} {Z : Stn} {g : Nm → Nm}
theorem mem_reZ {u : Trn} : u ∈ (reZ g Z).2 ↔ ∃ t ∈ Z.2, reT g t = u := by
  unfold reZ
  rw [List.mem_mergeSort, List.mem_map]
theorem gone_re {t : Trn} {k : Nat} (h : Gone L Z t k) : Gone L (reZ g Z) (reT g t) k :=
  Gone.sim (L := L) (Z := Z) (L2 := L) (reT g) (fun x m => mem_reZ.mpr ⟨x, m, rfl⟩) (fun _ _ _ _ e => e) (fun p e => e) h
open Classical in
/-- back to the old train -/
noncomputable def unT (g : Nm → Nm) (Z : Stn) (u : Trn) : Trn := if h : ∃ t ∈ Z.2, reT g t = u then Classical.choose h else u
theorem unT_ok {u : Trn} (h : u ∈ (reZ g Z).2) : unT g Z u ∈ Z.2 ∧ reT g (unT g Z u) = u := by
  have h1 := mem_reZ.mp h
  unfold unT
  rw [dif_pos h1]
  exact Classical.choose_spec h1
theorem gone_un {u : Trn} {k : Nat} (h : Gone L (reZ g Z) u k) : Gone L Z (unT g Z u) k :=
  Gone.sim (L := L) (Z := reZ g Z) (L2 := L) (Z2 := Z) (unT g Z) (fun x m => (unT_ok m).1) (fun x m k p e => by
    have := (unT_ok m).2
    have e2 : passesOf (unT g Z x) = passesOf x := by
      have e3 : x.2 = (unT g Z x).2 := by
        conv => lhs; rw [← this]
        rfl
      unfold passesOf
      rw [e3]
    rw [e2]
    exact e) (fun p e => e) h
theorem passed_re (q : Key2) : Passed L (reZ g Z) q ↔ Passed L Z q := by
  constructor
  · rintro ⟨t, j, p, h1, h2, h3⟩
    refine ⟨unT g Z t, j, p, gone_un h1, ?_, h3⟩
    have := (unT_ok h1.mem).2
    have e3 : t.2 = (unT g Z t).2 := by
      conv => lhs; rw [← this]
      rfl
    unfold passesOf at h2 ⊢
    rw [← e3]
    exact h2
  · rintro ⟨t, j, p, h1, h2, h3⟩
    exact ⟨reT g t, j, p, gone_re h1, h2, h3⟩
theorem home_re (nd : (Z.2.map (·.1)).Nodup) (inj : ∀ t ∈ Z.2, ∀ u ∈ Z.2, g t.1 = g u.1 → t.1 = u.1) {t : Trn} (ht : t ∈ Z.2) : Home L (reZ g Z) (reT g t) ↔ Home L Z t := by
  constructor
  · intro h
    have h1 := gone_un (show Gone L (reZ g Z) (reT g t) t.2.2.length from h)
    have h2 := unT_ok (mem_reZ.mpr ⟨t, ht, rfl⟩ : reT g t ∈ (reZ g Z).2)
    have e : unT g Z (reT g t) = t := name_uniq nd h2.1 ht (inj _ h2.1 _ ht (congrArg Prod.fst h2.2))
    rw [e] at h1
    exact h1
  · exact fun h => gone_re (show Gone L Z t t.2.2.length from h)
end
end Sx
set_option Elab.async false
set_option linter.all false
set_option maxRecDepth 100000
set_option maxHeartbeats 4000000
/-! Plain laws: what is told under other names. -/
namespace Sx
open PySem L2 PySem.W
section
variable {L : Lin} {Z : Stn} {g : Nm → Nm}
theorem far_re (t : Trn) : farOf L (reZ g Z) (reT g t) = farOf L Z t := rfl
theorem homeB_re (nd : (Z.2.map (·.1)).Nodup) (inj : ∀ t ∈ Z.2, ∀ u ∈ Z.2, g t.1 = g u.1 → t.1 = u.1) {t : Trn} (ht : t ∈ Z.2) : homeB L (reZ g Z) (reT g t) = homeB L Z t := by
  unfold homeB
  exact dec_iff2 (home_re nd inj ht)
theorem allPs_re (p : Key2) : p ∈ allPs (reZ g Z) ↔ p ∈ allPs Z := by
  unfold allPs
  rw [List.mem_flatMap, List.mem_flatMap]
  constructor
  · rintro ⟨u, hu, hp⟩
    obtain ⟨t, ht, rfl⟩ := mem_reZ.mp hu
    exact ⟨t, ht, hp⟩
  · rintro ⟨t, ht, hp⟩
    exact ⟨reT g t, mem_reZ.mpr ⟨t, ht, rfl⟩, hp⟩
theorem need_re : needOf (reZ g Z) = needOf Z := canonK_same fun k => by
  rw [List.mem_map, List.mem_map]
  exact ⟨fun ⟨p, h, e⟩ => ⟨p, (allPs_re p).mp h, e⟩, fun ⟨p, h, e⟩ => ⟨p, (allPs_re p).mpr h, e⟩⟩
theorem held_re : heldOf L (reZ g Z) = heldOf L Z := by
  have e : passB L (reZ g Z) = passB L Z := funext fun k => by
    unfold passB
    exact dec_iff2 (passed_re k)
  unfold heldOf
  rw [need_re, e]
theorem bar_re (nd : (Z.2.map (·.1)).Nodup) (inj : ∀ t ∈ Z.2, ∀ u ∈ Z.2, g t.1 = g u.1 → t.1 = u.1) {t : Trn} (ht : t ∈ Z.2) : barD L (reZ g Z) (reT g t) = barD L Z t := by
  unfold barD
  rw [homeB_re nd inj ht, held_re]
theorem reZ_ok {k : Nat} (G : StnG L Z k) (inj : ∀ t ∈ Z.2, ∀ u ∈ Z.2, g t.1 = g u.1 → t.1 = u.1) : StnG L (reZ g Z) k where
  st := G.st
  nm := by
    show (((Z.2.map (reT g)).mergeSort (leD tD)).map (·.1)).Nodup
    rw [((List.mergeSort_perm (Z.2.map (reT g)) (leD tD)).map (·.1)).nodup_iff, List.map_map]
    have h := List.pairwise_map.mp G.nm
    exact List.pairwise_map.mpr (List.Pairwise.imp_of_mem (fun {a b} ha hb hne e => hne (inj a ha b hb e)) h)
  nl := by
    show ((Z.2.map (reT g)).mergeSort (leD tD)).length ≤ 11
    rw [List.length_mergeSort, List.length_map]
    exact G.nl
  tr := fun u hu => by
    obtain ⟨t, ht, rfl⟩ := mem_reZ.mp hu
    obtain ⟨⟨h1, h2⟩, h3⟩ := G.tr t ht
    exact ⟨⟨h1, h2⟩, h3⟩
end
end Sx
set_option Elab.async false
set_option linter.all false
set_option maxRecDepth 100000
set_option maxHeartbeats 4000000
/-! Plain laws: the three cases of a turn; the new names; what is shown. -/
namespace Sx
open PySem L2 PySem.W
theorem homeB_iff {L : Lin} {Z : Stn} {t : Trn} : homeB L Z t = true ↔ Home L Z t := by
  unfold homeB
  exact @decide_eq_true_iff _ (Classical.propDecidable _)
theorem StnG.up {L : Lin} {Z : Stn} {k j : Nat} (G : StnG L Z k) (h : k ≤ j) : StnG L Z j :=
  ⟨G.st, G.nm, G.nl, fun u m => ⟨(G.tr u m).1, Nat.le_trans (G.tr u m).2 h⟩⟩
/-- a case: a line, a standing in which who got home still does -/
structure CaseOk (L : Lin) (Z : Stn) (q : Lin × Stn) (all : Prop) (nm : Nm) : Prop where
  lin : LinOk q.1
  stn : StnG q.1 q.2 43
  home : ∀ t ∈ Z.2, Home L Z t → (all ∨ t.1 ≠ nm) → ∃ t2 ∈ q.2.2, t2.1 = t.1 ∧ Home q.1 q.2 t2
theorem case_new {L : Lin} {Z : Stn} {n a nm : Nm} {st : List Nm} {all : Prop} (O : LinOk L) (G : StnG L Z 40) (h5 : Z.2.length ≤ 5) (hn : n ∉ Z.2.map (·.1)) (ha : a ∈ L.1) (hs : st.length ≤ 3) (hg : Goes L a st) : CaseOk L Z (L, withT Z (n, a, st)) all nm where
  lin := O
  stn := withT_ok G (by omega) ⟨ha, hg⟩ (by show st.length ≤ 43; omega) (by omega)
  home := fun t ht h _ => ⟨t, mem_withT.mpr (.inl ⟨ht, fun e => hn (List.mem_map.mpr ⟨t, ht, e⟩)⟩), rfl, home_new hn h⟩
theorem case_wide {L L' : Lin} {Z Z' : Stn} {nm : Nm} {all : Prop} (O : LinOk L) (G : StnG L Z 40) (h : (L' = L ∧ Z' = Z) ∨ ∃ i s so, Wider L Z L' Z' i s so) : CaseOk L Z (L', Z') all nm := by
  rcases h with ⟨rfl, rfl⟩ | ⟨i, s, so, W⟩
  · exact ⟨O, G.up (by omega), fun t ht h _ => ⟨t, ht, rfl, h⟩⟩
  · exact ⟨W.lin O, (W.stn O G).up (by omega), fun t ht h _ => ⟨t, by rw [W.sn]; exact ht, rfl, home_wide W O h⟩⟩
theorem case_long {L : Lin} {Z : Stn} {u : Trn} {ws : List Nm} (O : LinOk L) (G : StnG L Z 40) (h5 : Z.2.length ≤ 5) (hu : u ∈ Z.2) (hs : ws.length ≤ 3) (hg : Goes L (lastOf u.2.1 u.2.2) ws) : CaseOk L Z (L, withT Z (u.1, u.2.1, u.2.2 ++ ws)) False u.1 where
  lin := O
  stn := withT_ok G (by omega) ⟨(G.tr u hu).1.pl, Goes.app (G.tr u hu).1.go hg⟩ (by
    have := (G.tr u hu).2
    show (u.2.2 ++ ws).length ≤ 43
    rw [List.length_append]
    omega) (by omega)
  home := fun t ht h hn => by
    have hn : t.1 ≠ u.1 := hn.resolve_left id
    exact ⟨t, mem_withT.mpr (.inl ⟨ht, hn⟩), rfl, home_long G.nm hu hn h⟩
/-- a run's end, the trains in any order -/
theorem run_home {L : Lin} {Z : Stn} {us ts : List Trn} {ps : List Key2} (R : RunEnd L Z ts ps) (hp : us.Perm ts) {u : Trn} (hu : u ∈ us) : ∃ t ∈ Z.2, t.1 = u.1 ∧ homeB L Z t = decide (u.2.2 = []) := by
  obtain ⟨i, hi⟩ := List.getElem?_of_mem (hp.mem_iff.mp hu)
  have hl : i < Z.2.length := by
    rw [← R.len]
    exact (List.getElem?_eq_some_iff.mp hi).1
  have hz : Z.2[i]? = some Z.2[i] := List.getElem?_eq_getElem hl
  refine ⟨Z.2[i], List.getElem_mem hl, ?_, ?_⟩
  · have e := congrArg (fun l => l[i]?) (RunEnd.names R.toRch)
    have e : (ts.map (·.1))[i]? = (Z.2.map (·.1))[i]? := e
    rw [List.getElem?_map, List.getElem?_map, hi, hz] at e
    exact (Option.some.inj e).symm
  · unfold homeB
    exact dec_iff2 (R.home hz hi).symm
def toldOf (us : List Trn) : List Nm := (us.filter fun u => decide (u.2.2 = [])).map (·.1)
theorem told_all {L : Lin} {Z : Stn} {us ts : List Trn} {ps : List Key2} (R : RunEnd L Z ts ps) (hp : us.Perm ts) {t : Trn} (ht : t ∈ Z.2) (h : Home L Z t) : t.1 ∈ toldOf us := by
  obtain ⟨i, hi⟩ := List.getElem?_of_mem ht
  obtain ⟨k, h1, _⟩ := R.tr i t hi
  have e := (R.home hi h1).mpr h
  exact List.mem_map.mpr ⟨adv t k, List.mem_filter.mpr ⟨hp.mem_iff.mpr (List.mem_of_getElem? h1), decide_eq_true e⟩, rfl⟩
theorem none_lost {L : Lin} {Z : Stn} {q : Lin × Stn} {all : Prop} {nm : Nm} {us ts : List Trn} {ps : List Key2} (C : CaseOk L Z q all nm) (R : RunEnd q.1 q.2 ts ps) (hp : us.Perm ts) {t : Trn} (ht : t ∈ Z.2) (h : homeB L Z t = true) (ho : all ∨ t.1 ≠ nm) : t.1 ∈ toldOf us := by
  obtain ⟨t2, h1, h2, h3⟩ := C.home t ht (homeB_iff.mp h) ho
  rw [← h2]
  exact told_all R hp h1 h3
/-! ### other names -/
def wNs : List Nm := [mkN "wz", mkN "wy", mkN "wx", mkN "ww", mkN "wv"]
theorem wNs_nd : wNs.Nodup := by
  have : (wNs.map fun n => n.1).Nodup := by decide +kernel
  exact List.Pairwise.of_map (S := fun a b => a ≠ b) (fun n : Nm => n.1) (fun a b h e => h (congrArg (fun n : Nm => n.1) e)) this
def zyx : Str := "zyxwvutsrqponmlkjihgfedcba"
theorem zyx_at : ∀ i : Nat, i < 5 → ∃ c : Nat, zyx.cps.toList[i]? = some c ∧ (wNs.map nD)[i]? = some (.str (("w" : Str) ++ (⟨#[c]⟩ : Str))) := by
  have : ∀ i : Nat, i < 5 → zyx.cps.toList[i]? = some (122 - i) ∧ (wNs.map fun n => n.1)[i]? = some (("w" : Str) ++ (⟨#[122 - i]⟩ : Str)) := by decide +kernel
  intro i hi
  obtain ⟨h1, h⟩ := this i hi
  refine ⟨_, h1, ?_⟩
  rw [List.getElem?_map] at h ⊢
  cases e : wNs[i]? with
  | none =>
    rw [e] at h
    cases h
  | some n =>
    rw [e] at h
    have h : n.1 = _ := Option.some.inj h
    show some (PyData.str n.1) = _
    rw [h]
def wN (i : Nat) : Nm := wNs.getD i (mkN "w")
theorem wN_at {i : Nat} (h : i < 5) : wNs[i]? = some (wN i) := by
  unfold wN
  rw [List.getD_eq_getElem?_getD, List.getElem?_eq_getElem (show i < wNs.length from h)]
  rfl
theorem wN_inj {i j : Nat} (hi : i < 5) (hj : j < 5) (e : wN i = wN j) : i = j := nodup_at wNs_nd (wN_at hi) (by rw [e]; exact wN_at hj)
theorem wN_str {i : Nat} (h : i < 5) : ∃ c : Nat, atI zyx.cps.toList (i : Nat) = some c ∧ PyData.str (("w" : Str) ++ (⟨#[c]⟩ : Str)) = nD (wN i) := by
  obtain ⟨c, h1, h2⟩ := zyx_at i h
  refine ⟨c, at_n h1, ?_⟩
  rw [List.getElem?_map, wN_at h] at h2
  exact (Option.some.inj h2).symm
/-- the new name of an old one -/
def reN (Z : Stn) (n : Nm) : Nm := wN ((Z.2.map (·.1)).idxOf n)
theorem idx_at {Z : Stn} (nd : (Z.2.map (·.1)).Nodup) {i : Nat} {t : Trn} (h : Z.2[i]? = some t) : (Z.2.map (·.1)).idxOf t.1 = i := by
  have h1 : (Z.2.map (·.1))[i]? = some t.1 := by rw [List.getElem?_map, h]; rfl
  have hm : t.1 ∈ Z.2.map (·.1) := List.mem_of_getElem? h1
  have h2 : (Z.2.map (·.1))[(Z.2.map (·.1)).idxOf t.1]? = some t.1 := by
    have hl := List.idxOf_lt_length_of_mem hm
    rw [List.getElem?_eq_getElem hl, List.getElem_idxOf hl]
  exact nodup_at nd h2 h1
theorem reN_inj {Z : Stn} (nd : (Z.2.map (·.1)).Nodup) (h5 : Z.2.length ≤ 5) : ∀ t ∈ Z.2, ∀ u ∈ Z.2, reN Z t.1 = reN Z u.1 → t.1 = u.1 := fun t ht u hu e => by
  obtain ⟨i, hi⟩ := List.getElem?_of_mem ht
  obtain ⟨j, hj⟩ := List.getElem?_of_mem hu
  have li := (List.getElem?_eq_some_iff.mp hi).1
  have lj := (List.getElem?_eq_some_iff.mp hj).1
  unfold reN at e
  rw [idx_at nd hi, idx_at nd hj] at e
  have := wN_inj (by omega) (by omega) e
  subst this
  rw [hi] at hj
  rw [Option.some.inj hj]
def calD (Z : Stn) : List (Key × PyData) := (Z.2.map fun t => (t.1, nD (reN Z t.1))).map fun q => (kN q.1, q.2)
theorem calD_val {Z : Stn} (nd : (Z.2.map (·.1)).Nodup) {t : Trn} (ht : t ∈ Z.2) : valD (calD Z) (kN t.1) = some (nD (reN Z t.1)) := by
  refine valD_at ?_ ?_
  · have e0 : (calD Z).map (·.1) = (Z.2.map (·.1)).map kN := by
      unfold calD
      rw [List.map_map, List.map_map, List.map_map]
      rfl
    rw [e0]
    exact (List.pairwise_map).mpr (List.Pairwise.imp (fun hne he => hne (kN_inj he)) nd)
  · unfold calD
    rw [List.map_map]
    exact List.mem_map.mpr ⟨t, ht, rfl⟩
/-! ### what is shown -/
theorem nodup_small {ks ls : List Key2} (h : ks.Nodup) (m : ∀ k ∈ ks, k ∈ ls) : ks.length ≤ ls.length := nodup_sub_len h m
theorem canonK_nd (ks : List Key2) : (canonK ks).Nodup := (List.mergeSort_perm (nub ks) (leD kD)).nodup_iff.mpr nodup_nub
theorem far_len {L : Lin} {Z : Stn} {t : Trn} (h : t.2.2.length ≤ 60) : (farOf L Z t).length ≤ 200 := by
  have h1 : (farOf L Z t).length ≤ ((passesOf t).map keyP).length := nodup_sub_len (canonK_nd _) fun k hk => (List.mem_filter.mp (mem_canonK.mp hk)).1
  have h2 : (passesOf t).length = t.2.2.length := pf_len _ _
  rw [List.length_map] at h1
  omega
theorem held_len {L : Lin} {Z : Stn} (O : LinOk L) (S : StnOk L Z) : (heldOf L Z).length ≤ 200 := by
  have h1 : (heldOf L Z).length ≤ (keysL L).length := nodup_sub_len (List.filter_sublist.nodup (canonK_nd _)) fun k hk => by
    have hk := mem_canonK.mp (List.mem_filter.mp hk).1
    obtain ⟨p, hp, rfl⟩ := List.mem_map.mp hk
    unfold allPs at hp
    obtain ⟨t, ht, hp⟩ := List.mem_flatMap.mp hp
    obtain ⟨so, hso⟩ := (S.ps t ht).wk p hp
    exact sort_key hso (keyOf_idem _ _)
  have h2 : (keysL L).length = L.2.length := by
    unfold keysL
    rw [List.length_map]
  have := O.sl
  omega
noncomputable def tellD (L : Lin) (Z : Stn) (t : Trn) : List PyData := [.bool (homeB L Z t), .tuple ((farOf L Z t).map kD), barD L Z t]
theorem bar_shw {L : Lin} {Z : Stn} {t : Trn} (O : LinOk L) (S : StnOk L Z) : Shw (barD L Z t) 10200 2 := by
  unfold barD
  split
  · exact shw_non.up (by decide) (Nat.le_refl _)
  · exact shw_keys (held_len O S)
theorem tell_shw {L : Lin} {Z : Stn} {t : Trn} (O : LinOk L) (S : StnOk L Z) (ht : t.2.2.length ≤ 60) : Shw (.list (tellD L Z t)) 100000 5 :=
  ((ShwA.cons (shw_b _) (ShwA.cons (shw_keys (far_len ht)) (ShwA.cons (bar_shw O S) .nil))).lst).up (by decide) (by decide)
theorem eqv_keys (ks : List Key2) : PyData.eqv (.tuple (ks.map kD)) (.tuple (ks.map kD)) = true := by
  have := encK.tl.eqv ks ks
  rw [decide_eq_true rfl] at this
  exact this
theorem tell_eqv (L : Lin) (Z : Stn) (t : Trn) : PyData.eqv (.list (tellD L Z t)) (.list (tellD L Z t)) = true := by
  have hb : PyData.eqv (barD L Z t) (barD L Z t) = true := by
    unfold barD
    split
    · simp [PyData.eqv]
    · exact eqv_keys _
  unfold tellD
  simp only [PyData.eqv, PyData.eqvAll, hb, beq_self_eq_true, Bool.and_true, Bool.true_and]
  have := eqv_keys (farOf L Z t)
  simp only [PyData.eqv] at this
  exact this
theorem tell_shape {d : PyData} {n : Nat} (h : Shw d n 5) : SeqAt.shaped d = true := by
  show (d.canLay0 && decide (d.depth ≤ 64)) = true
  rw [Bool.and_eq_true]
  exact ⟨h.cl, decide_eq_true (Nat.le_trans h.dp (by decide))⟩
end Sx
set_option Elab.async false
set_option linter.all false
set_option maxRecDepth 100000
set_option maxHeartbeats 4000000
/-! A list of mine of pairs (line, standing); what a run gives. -/
namespace Sx
open PySem PySem.Spec PyProof.Rows L2
def arePairs (H : Hp) : List V → List (Lin × Stn) → Prop
  | [], [] => True
  | v :: vs, q :: qs => isPair q.1 q.2 v H ∧ arePairs H vs qs
  | _, _ => False
section
variable {H H' : Hp}
theorem arePairs.mono (e : Same H H') : ∀ {vs : List V} {qs : List (Lin × Stn)}, arePairs H vs qs → arePairs H' vs qs
  | [], [], _ => trivial
  | _ :: _, _ :: _, ⟨h, r⟩ => ⟨h.mono e, arePairs.mono e r⟩
  | [], _ :: _, h => h.elim
  | _ :: _, [], h => h.elim
theorem arePairs.len : ∀ {vs : List V} {qs : List (Lin × Stn)}, arePairs H vs qs → vs.length = qs.length
  | [], [], _ => rfl
  | _ :: _, _ :: _, ⟨_, r⟩ => congrArg (· + 1) (arePairs.len r)
  | [], _ :: _, h => h.elim
  | _ :: _, [], h => h.elim
theorem arePairs.at_ : ∀ {vs : List V} {qs : List (Lin × Stn)} {i : Nat} {v : V}, arePairs H vs qs → vs[i]? = some v → ∃ q, qs[i]? = some q ∧ isPair q.1 q.2 v H
  | [], [], _, _, _, e => by simp at e
  | _ :: _, q :: _, 0, _, ⟨h, _⟩, e => by
    simp at e
    subst e
    exact ⟨q, rfl, h⟩
  | _ :: _, _ :: _, i + 1, _, ⟨_, r⟩, e => by
    obtain ⟨q, h1, h2⟩ := arePairs.at_ (i := i) r (by simpa using e)
    exact ⟨q, by simpa using h1, h2⟩
  | [], _ :: _, _, _, h, _ => h.elim
  | _ :: _, [], _, _, h, _ => h.elim
theorem arePairs.app {q : Lin × Stn} {v : V} (h2 : isPair q.1 q.2 v H) : ∀ {vs : List V} {qs : List (Lin × Stn)}, arePairs H vs qs → arePairs H (vs ++ [v]) (qs ++ [q])
  | [], [], _ => ⟨h2, trivial⟩
  | _ :: _, _ :: _, ⟨h, r⟩ => ⟨h, arePairs.app h2 r⟩
  | [], _ :: _, h => h.elim
  | _ :: _, [], h => h.elim
end
def casesO (qs : List (Lin × Stn)) : MO := .pr fun H o => ∃ vs, o = .lst vs ∧ arePairs H vs qs
def isEnC (i : Nat) (q : Lin × Stn) (v : V) (H : Hp) : Prop := ∃ (a : Addr) (v2 : V), v = .ref a ∧ H a = some (.tup [.int (i : Nat), v2]) ∧ isPair q.1 q.2 v2 H
theorem isEnC.mono {i : Nat} {q : Lin × Stn} {v : V} {H H' : Hp} (e : Same H H') (h : isEnC i q v H) : isEnC i q v H' := by
  obtain ⟨a, v2, e1, e2, e3⟩ := h
  exact ⟨a, v2, e1, e _ _ e2, e3.mono e⟩
section
variable {H0 : Hp} {x : List Addr} {ss s : SS} {te tf : TE} {ta : TA} {u : TS} {D : Ends} {K : PySem.W.Frag} {Φ : Ty → Prop} {g : List Ty} {Ls : List (Addr × MO)} {b : Option (Addr × Addr)} {i : Nat} {p : Addr}
theorem pair_at {L : Lin} {Z : Stn} {v : V} {H : Hp} (h : (pairTy L Z).holds v H) : isPair L Z v H := h _ (Same.refl _)
/-- y = [pair] -/
theorem tr_asgC (hi : i < ss.g.length) (h : Ev H0 x ss te Φ) (k : ∀ t, Φ t → ∃ L Z, t = pairTy L Z ∧ ∀ p, Tr H0 x ⟨ss.g.set i (.rf p), (p, casesO [(L, Z)]) :: ss.l, ss.b⟩ u D) : Tr H0 x ss (tSeq (tAsg (tLst (tCons te tNil)) (gName i)) u) D := fun σ H S =>
  h σ H S _ fun t v H1 p1 S1 e r => by
    obtain ⟨L, Z, rfl, hk⟩ := k t p1
    refine ⟨by show 1 ≤ sizeLine; decide, fun p hp => ?_⟩
    obtain ⟨S2, e2⟩ := S1.mine (m := casesO []) (o := .lst []) hp fun M => ⟨_, upd_same, fun _ q => (nomatch q), fun _ _ => ⟨[], rfl, trivial⟩⟩
    have S3 := (S2.chg (ss := ss) (m' := casesO [(L, Z)]) (o := .lst [v]) ⟨_, upd_same, fun _ q => (nomatch q), fun H' e' => ⟨[v], rfl, r _ (e2.trans e'), trivial⟩⟩).1
    rw [upd_upd] at S3
    exact hk p _ _ (S3.st (ss := ⟨ss.g, (p, casesO [(L, Z)]) :: ss.l, ss.b⟩) (t := .rf p) hi rfl)
/-- l.append(pair) -/
theorem tr_appC {qs : List (Lin × Stn)} (hg : g[i]? = some (.rf p)) (hl : qs.length < 100000) (h : Ev H0 x ⟨g, (p, casesO qs) :: Ls, b⟩ te Φ) (k : ∀ t, Φ t → ∃ L Z, t = pairTy L Z ∧ Tr H0 x ⟨g, (p, casesO (qs ++ [(L, Z)])) :: Ls, b⟩ u D) :
    Tr H0 x ⟨g, (p, casesO qs) :: Ls, b⟩ (tSeq (tDrop (tBM K "list" rAppend (tVar i) (tCons te tNil))) u) D := fun σ H S => by
  rcases S.vr i _ hg with z | ⟨v, h1, h2⟩
  · cases z
  have h2 : v = .ref p := h2
  subst h2
  obtain ⟨_, o0, ho0, _, c0⟩ := S.ls (p, casesO qs) List.mem_cons_self
  obtain ⟨vs0, rfl, _⟩ := c0 _ (Same.refl _)
  refine ⟨.ref p, h1, .inl ⟨rfl, vs0, .inl (.inl ho0)⟩, ?_⟩
  refine h σ H S _ fun t w H1 ht S1 e r => ?_
  obtain ⟨L, Z, rfl, hk⟩ := k t ht
  obtain ⟨_, o, hp, _, c⟩ := S1.ls (p, casesO qs) List.mem_cons_self
  obtain ⟨vs, rfl, hv⟩ := c _ (Same.refl _)
  refine ⟨p, vs, w, rfl, rfl, hp, by rw [hv.len]; exact Nat.lt_trans hl (by decide), hk σ _ ?_⟩
  exact (S1.chg (ss := ⟨g, Ls, b⟩) (m' := casesO (qs ++ [(L, Z)])) (o := .lst (vs ++ [w])) ⟨_, upd_same, fun _ q => (nomatch q), fun H' e' => ⟨_, rfl, (hv.mono e').app (q := (L, Z)) (r _ e')⟩⟩).1
/-- enumerate(pairs) -/
theorem src_enumC {qs : List (Lin × Stn)} (h : EvD H0 x ss te (casesO qs).ty) : SrcP H0 x ss (iEnum K (tCons te tNil)) (fun n ty => n = qs.length ∧ ∀ i q, qs[i]? = some q → ty i = .pr (isEnC i q)) := fun σ H S R r =>
  h σ H S _ fun t v H1 p S1 e q => by
    subst p
    obtain ⟨a, o, rfl, ha, _, us, rfl, hu⟩ := q _ (Same.refl _)
    have hn := hu.len
    refine ⟨a, us, rfl, .inl (.inl (hid_some ha).2), ?_⟩
    refine r qs.length (fun i => match qs[i]? with | some q => .pr (isEnC i q) | none => .any) (Ite K a) H1 (YPair (fun i => some (.int (i : Nat))) (fun i => us[i]?)) ⟨rfl, fun i q e => by
      show (match qs[i]? with | some q => Ty.pr (isEnC i q) | none => Ty.any) = _
      rw [e]⟩ S1 e ?_ fun i H2 v H3 M2 hi s3 T y => ?_
    · rw [← hn]
      exact (walk_enum (K := K) (a := a) (xs := us)).mono (fun H2 g => .inl (.inl (g _ _ ha))) fun i H2 z H3 _ _ y => y
    · obtain ⟨T', y1, y2, rfl, hT, rfl, e1, e2⟩ := y
      obtain ⟨q, h1, h2⟩ := hu.at_ e2
      cases e1
      refine ⟨same_new hT, ?_⟩
      show Ty.holds _ _ (match qs[i]? with | some q => .pr (isEnC i q) | none => .any)
      rw [h1]
      exact fun H' e' => ⟨T', _, rfl, e' _ _ (hid_new T hT), h2.mono ((s3.trans (hid_mono (same_new hT))).trans e')⟩
/-- (at, (line, standing)) is taken apart -/
theorem bd_pair {L : Lin} {Z : Stn} {j k : Nat} (hj : j < s.g.length) (hk : k < s.g.length) : Bd H0 x (gTup K 2 (gCons (gName j) (gCons (gName k) gNil))) s (pairTy L Z) [j, k] ((s.st j (.im (lD L))).st k (stnTy Z)) := fun v σ H Q S r q0 => by
  obtain ⟨a1, vl, vz, rfl, h1, h2, h3⟩ := pair_at r
  refine ⟨a1, [vl, vz], rfl, .inl (.inl (hid_some h1).2), rfl, vl, [vz], rfl, ?_⟩
  refine bd_name (t := .im (lD L)) hj vl σ H _ S h2 fun σ1 S1 e1 l1 => ?_
  refine ⟨vz, [], rfl, ?_⟩
  refine bd_name (s := s.st j (.im (lD L))) (by show k < (s.g.set j _).length; rw [List.length_set]; exact hk) vz σ1 H _ S1 (t := stnTy Z) (stn_of h3) fun σ2 S2 e2 l2 => ?_
  refine ⟨rfl, q0 σ2 S2 (fun i n => ?_) (l2.trans l1)⟩
  rw [e2 i fun m => n (List.mem_cons_of_mem _ m), e1 i fun m => n (by rw [List.mem_singleton.mp m]; exact List.mem_cons_self)]
theorem bd_enC {n : Nat} {q : Lin × Stn} {i j k : Nat} (hi : i < s.g.length) (hj : j < s.g.length) (hk : k < s.g.length) : Bd H0 x (gTup K 2 (gCons (gName i) (gCons (gTup K 2 (gCons (gName j) (gCons (gName k) gNil))) gNil))) s (.pr (isEnC n q)) [i, j, k] (((s.st i (.im (.int (n : Nat)))).st j (.im (lD q.1))).st k (stnTy q.2)) := fun v σ H Q S r q0 => by
  obtain ⟨a0, v2, rfl, h0, hp⟩ := r _ (Same.refl _)
  refine ⟨a0, _, rfl, .inl (.inl (hid_some h0).2), rfl, _, _, rfl, ?_⟩
  refine bd_name (t := .im (.int (n : Nat))) hi _ σ H _ S (.int _) fun σ1 S1 e1 l1 => ?_
  refine ⟨v2, [], rfl, ?_⟩
  refine bd_pair (s := s.st i (.im (.int (n : Nat)))) (L := q.1) (Z := q.2) (by show j < (s.g.set i _).length; rw [List.length_set]; exact hj) (by show k < (s.g.set i _).length; rw [List.length_set]; exact hk) v2 σ1 H _ S1 (fun H' e' => hp.mono e') fun σ2 S2 e2 l2 => ?_
  refine ⟨rfl, q0 σ2 S2 (fun c n => ?_) (l2.trans l1)⟩
  rw [e2 c fun m => n (List.mem_cons_of_mem _ m), e1 c fun m => n (by rw [List.mem_singleton.mp m]; exact List.mem_cons_self)]
/-- the trains of a run -/
theorem ev_run1 {P : List Trn → Prop} (h : Ev H0 x ss te (fun t => ∃ us, P us ∧ t = runTy us)) : Ev H0 x ss (tOp (rIxT K) te (tC (.int 1))) (fun t => ∃ us, P us ∧ t = .im (.tuple (us.map tD))) := fun σ H S Q q =>
  h σ H S _ fun t v H1 ⟨us, hP, e0⟩ S1 e r => by
    subst e0
    obtain ⟨a, v0, v1, rfl, h2, h3⟩ := r _ (Same.refl _)
    exact ⟨_, _, 1, v1, rfl, rfl, .inl (.inl (hid_some h2).2), rfl, q _ _ H1 ⟨us, hP, rfl⟩ S1 e h3⟩
end
end Sx
set_option Elab.async false
set_option linter.all false
set_option maxRecDepth 100000
set_option maxHeartbeats 8000000
/-! law's own walk. -/
namespace Sx
open PySem PySem.Spec PyProof.Rows L2
open C8 (Cal pe_c)
def sp_law (K : PySem.W.Frag) : Sp := fun vs H Q _ => ∃ v, vs = [v] ∧ isInts K v H ∧ ∀ H', Q (.bl true) H'
section
variable {H : Hp} {K : PySem.W.Frag} {E : XK} {u : TS} {D : Ends} {σ : L2.St}
/-- the bag is made: from here on there is one -/
theorem tr_bag {v : V} {i j : Nat} {g : Addr → List Ty} (hv : σ[i]? = some (some v)) (hi : isInts K v H) (hj : j < σ.length) (hg : ∀ b, g b = (List.replicate σ.length Ty.any).set j (.rf b)) (k : ∀ b c H', Tr H' [] ⟨g b, [], some (b, c)⟩ u D) : (tSeq (tAsg (tCall (sp__law_bag K) [] E (tCons (tVar i) tNil)) (gName j)) u) D σ H :=
  ⟨v, hv, v, rfl, hi, fun b c H' hb hc Bg e => k b c H' _ H' {
    fr := fun _ _ _ h => h
    ls := fun _ z => (nomatch z)
    nd := List.nodup_nil
    bg := fun b' c' z => by
      cases z
      obtain ⟨_, s0, s1, s2, cs, e1, e2, _⟩ := id Bg
      exact ⟨Bg, (by rw [e1]; exact fun q => (nomatch q)), (by rw [e2]; exact fun q => (nomatch q))⟩
    tx := fun a m => (nomatch m)
    vr := fun n t e => by
      rw [hg] at e
      by_cases z : j = n
      · subst z
        have e : ((List.replicate σ.length Ty.any).set j (.rf b))[j]? = some t := e
        rw [List.getElem?_set_self (by rw [List.length_replicate]; exact hj)] at e
        cases e
        exact .inr ⟨.ref b, List.getElem?_set_self hj, rfl⟩
      · have e : ((List.replicate σ.length Ty.any).set j (.rf b))[n]? = some t := e
        rw [List.getElem?_set_ne z, List.getElem?_replicate] at e
        split at e
        · exact .inl (Option.some.inj e).symm
        · cases e
    ln := by
      show (σ.set j (some (.ref b))).length = (g b).length
      rw [hg, List.length_set, List.length_set, List.length_replicate] }⟩
end
section
variable {P : Program} {w : World} {K : PySem.W.Frag} {mg : Str → Option Value} {base : Heap}
abbrev s_law : Stmt := topS 56
abbrev N_law : List Str := ["_law_script", "_law_bag_here", "_law_turn", "_law_line_here", "_law_standing_here", "_law_near_here", "_law_name", "_law_place", "_law_rest", "_law_home", "_law_cases", "_law_longer", "_law_at", "_law_wide", "_law_later", "_law_trains_here", "_law_one", "_law_where", "_law_left", "_law_told", "_law_called", "_law_other", "_law_new", "_law_train"]
theorem sc_law : FnScope N_law ["_law_script"] (defScope s_law) := ⟨rfl, rfl, rfl, by decide +kernel, rfl, by decide +kernel, by decide +kernel⟩
theorem bd_law (B : Bl mg) (c__law_bag : Cal P w K mg base 1 "_law_bag" (sp__law_bag K) []) (c__law_near : Cal P w K mg base 1 "_law_near" sp__law_near []) (c__law_some : Cal P w K mg base 2 "_law_some" sp__law_some []) (c__law_small : Cal P w K mg base 7 "_law_small" sp__law_small []) (c__law_middle : Cal P w K mg base 7 "_law_middle" sp__law_middle []) (c__law_wider : Cal P w K mg base 3 "_law_wider" sp__law_wider []) (c__law_walk : Cal P w K mg base 3 "_law_walk" sp__law_walk []) (c_gets_home : Cal P w K mg base 8 "gets_home" sp_gets_home []) (c__law_with_train : Cal P w K mg base 1 "_law_with_train" sp__law_with_train []) (c__law_open_run : Cal P w K mg base 3 "_law_open_run" sp__law_open_run []) (c_far : Cal P w K mg base 6 "far" sp_far []) (c_bar : Cal P w K mg base 9 "bar" sp_bar []) (c__law_alike : CalG P w K mg base 1 "_law_alike" sp__law_alike) (c__law_new_name : Cal P w K mg base 1 "_law_new_name" sp__law_new_name []) : BodG P w K mg base N_law "law" s_law 9 (sp_law K) := fun f cdv A outer s H vs Q E hgd hr h => by
  have hu := hu_of hr
  obtain ⟨v, rfl, hv, q⟩ := h
  refine ⟨_, (pss_cons (ps_set (i := 1) sc_law.nd rfl (Or.inl rfl) (pe_c c__law_bag hr (by decide) (by rfl) (pa_cons (pv 0) pa_nil)))
    (pss_cons (ps_for PassesOwn.never rfl (pi_range1 (by rfl) B.m_range (pa_cons pe_int pa_nil)) (pg_name (i := 2) sc_law.nd rfl (Or.inl rfl))
      (pss_cons (ps_asg (pe_ifExp (pt_cmpR op_lt (pv 2) pe_int (nomark _)) (pe_c c__law_small hr (by decide) (by rfl) (pa_cons (pv 1) pa_nil)) (pe_c c__law_middle hr (by decide) (by rfl) (pa_cons (pv 1) pa_nil))) (pg_tup rfl (pgs_cons (pg_name (i := 3) sc_law.nd rfl (Or.inr rfl)) (pgs_cons (pg_name (i := 4) sc_law.nd rfl (Or.inr rfl)) pgs_nil))))
      (pss_cons (ps_set (i := 5) sc_law.nd rfl (Or.inl rfl) (pe_c c__law_near hr (by decide) (by rfl) (pa_cons (pv 3) pa_nil)))
      (pss_cons (ps_setLc (i := 9) (own := [("_law_name", 6), ("_law_place", 7), ("_law_rest", 8)]) (g := (gTup K 3 (gCons (gName 6) (gCons (gName 7) (gCons (gName 8) gNil))))) (tt := (tB (tCall sp_gets_home [] E0 (tCons (tVar 3) (tCons (tVar 4) (tCons (tVar 6) tNil)))))) (te := (tVar 6)) rfl sc_law.nd rfl rfl (sw_true rfl rfl rfl (by decide +kernel)) (pi_tup (pe_ix ix_tup (pv 4) pe_int (fun _ _ => rfl))) (blkOk_by (own := [("_law_name", 6), ("_law_place", 7), ("_law_rest", 8)]) (N := N_law) (sc := defScope s_law) (by decide +kernel)) (fun _ _ _ _ _ => (pg_tup rfl (pgs_cons (pg_name (i := 6) sc_law.nd rfl (Or.inl rfl)) (pgs_cons (pg_name (i := 7) sc_law.nd rfl (Or.inl rfl)) (pgs_cons (pg_name (i := 8) sc_law.nd rfl (Or.inl rfl)) pgs_nil))))) (fun _ _ _ _ _ => (pts_one (pt_val (pe_c c_gets_home hr (by decide) (by rfl) (pa_cons (pv 3) (pa_cons (pv 4) (pa_cons (pv 6) pa_nil))))))) (fun _ _ _ _ _ => (pv 6)))
      (pss_cons (ps_set (i := 7) sc_law.nd rfl (Or.inl rfl) (pe_c c__law_some hr (by decide) (by rfl) (pa_cons (pv 1) (pa_cons (pe_callTy call_list_of (by rfl) B.m_list (by decide +kernel) (pa_cons (pe_ix ix_tup (pv 3) pe_int (fun _ _ => rfl)) pa_nil)) pa_nil))))
      (pss_cons (ps_set (i := 10) sc_law.nd rfl (Or.inl rfl) (pe_lst (pa_cons (pe_tup (pa_cons (pv 3) (pa_cons (pe_c c__law_with_train hr (by decide) (by rfl) (pa_cons (pv 4) (pa_cons (pe_tup (pa_cons (pe_c c__law_new_name hr (by decide) (by rfl) (pa_cons (pv 4) pa_nil)) (pa_cons (pv 7) (pa_cons (pe_c c__law_walk hr (by decide) (by rfl) (pa_cons (pv 1) (pa_cons (pv 5) (pa_cons (pv 7) (pa_cons pe_int pa_nil))))) pa_nil)))) pa_nil))) pa_nil))) pa_nil)))
      (pss_cons (ps_expr (pe_bm PySem.F.plainAttrs_list PySem.F.slot_list_append PySem.F.type_list_append mt_append (pv 10) (pa_cons (pe_c c__law_wider hr (by decide) (by rfl) (pa_cons (pv 1) (pa_cons (pv 3) (pa_cons (pv 4) pa_nil)))) pa_nil)))
      (pss_cons (ps_asg (pe_c c__law_some hr (by decide) (by rfl) (pa_cons (pv 1) (pa_cons (pe_callTy call_list_of (by rfl) B.m_list (by decide +kernel) (pa_cons (pe_ix ix_tup (pv 4) pe_int (fun _ _ => rfl)) pa_nil)) pa_nil))) (pg_tup rfl (pgs_cons (pg_name (i := 6) sc_law.nd rfl (Or.inr rfl)) (pgs_cons (pg_name (i := 7) sc_law.nd rfl (Or.inl rfl)) (pgs_cons (pg_name (i := 8) sc_law.nd rfl (Or.inl rfl)) pgs_nil)))))
      (pss_cons (ps_set (i := 11) sc_law.nd rfl (Or.inl rfl) (pe_op op_catA (pv 8) (pe_c c__law_walk hr (by decide) (by rfl) (pa_cons (pv 1) (pa_cons (pv 5) (pa_cons (pe_ifExp (pt_cmpR (op_neD hr.units) (pv 8) (pe_tup pa_nil) (nomark _)) (pe_ix ix_tup (pv 8) (pe_un un_neg pe_int) (fun _ _ => rfl)) (pv 7)) (pa_cons pe_int pa_nil)))))))
      (pss_cons (ps_expr (pe_bm PySem.F.plainAttrs_list PySem.F.slot_list_append PySem.F.type_list_append mt_append (pv 10) (pa_cons (pe_tup (pa_cons (pv 3) (pa_cons (pe_c c__law_with_train hr (by decide) (by rfl) (pa_cons (pv 4) (pa_cons (pe_tup (pa_cons (pv 6) (pa_cons (pv 7) (pa_cons (pv 11) pa_nil)))) pa_nil))) pa_nil))) pa_nil)))
      (pss_cons (ps_for PassesOwn.never rfl (pi_enum (by rfl) B.m_enumerate (pa_cons (pv 10) pa_nil)) (pg_tup rfl (pgs_cons (pg_name (i := 12) sc_law.nd rfl (Or.inr rfl)) (pgs_cons (pg_tup rfl (pgs_cons (pg_name (i := 13) sc_law.nd rfl (Or.inr rfl)) (pgs_cons (pg_name (i := 14) sc_law.nd rfl (Or.inr rfl)) pgs_nil))) pgs_nil)))
        (pss_cons (ps_set (i := 15) sc_law.nd rfl (Or.inl rfl) (pe_ix ix_tup (pe_c c__law_open_run hr (by decide) (by rfl) (pa_cons (pv 1) (pa_cons (pv 13) (pa_cons (pv 14) (pa_cons pe_non pa_nil))))) pe_int (fun _ _ => rfl)))
        (pss_cons (ps_set (i := 19) sc_law.nd rfl (Or.inr rfl) (pe_lc (own := [("_law_one", 16), ("_law_where", 17), ("_law_left", 18)]) (g := (gTup K 3 (gCons (gName 16) (gCons (gName 17) (gCons (gName 18) gNil))))) (tt := (tB (tCall sp_gets_home [] E0 (tCons (tVar 13) (tCons (tVar 14) (tCons (tVar 16) tNil)))))) (te := (tVar 16)) rfl sc_law.nd (pi_tup (pv 15)) (blkOk_by (own := [("_law_one", 16), ("_law_where", 17), ("_law_left", 18)]) (N := N_law) (sc := defScope s_law) (by decide +kernel)) (fun _ _ _ _ _ => (pg_tup rfl (pgs_cons (pg_name (i := 16) sc_law.nd rfl (Or.inl rfl)) (pgs_cons (pg_name (i := 17) sc_law.nd rfl (Or.inl rfl)) (pgs_cons (pg_name (i := 18) sc_law.nd rfl (Or.inl rfl)) pgs_nil))))) (fun _ _ _ _ _ => (pts_one (pt_val (pe_c c_gets_home hr (by decide) (by rfl) (pa_cons (pv 13) (pa_cons (pv 14) (pa_cons (pv 16) pa_nil))))))) (fun _ _ _ _ _ => (pv 16))))
        (pss_cons (ps_if (pt_cmpR (op_neD hr.units) (pv 19) (pe_lc (own := [("_law_one", 16), ("_law_where", 17), ("_law_left", 18)]) (g := (gTup K 3 (gCons (gName 16) (gCons (gName 17) (gCons (gName 18) gNil))))) (tt := (tTest (tOp (rEqD K) (tVar 18) (tTup tNil)))) (te := (tVar 16)) rfl sc_law.nd (pi_tup (pv 15)) (blkOk_by (own := [("_law_one", 16), ("_law_where", 17), ("_law_left", 18)]) (N := N_law) (sc := defScope s_law) (by decide +kernel)) (fun _ _ _ _ _ => (pg_tup rfl (pgs_cons (pg_name (i := 16) sc_law.nd rfl (Or.inl rfl)) (pgs_cons (pg_name (i := 17) sc_law.nd rfl (Or.inl rfl)) (pgs_cons (pg_name (i := 18) sc_law.nd rfl (Or.inl rfl)) pgs_nil))))) (fun _ _ _ _ _ => (pts_one (pt_cmpR (op_eqD hr.units) (pv 18) (pe_tup pa_nil) (nomark _)))) (fun _ _ _ _ _ => (pv 16))) (nomark _))
          (pss_cons (ps_ret pe_bl)
          pss_nil)
          pss_nil)
        (pss_cons (ps_if (pt_cmpR (op_neD hr.units) (pe_lc (own := [("_law_one", 16)]) (g := (gName 16)) (tt := (tAnd (tTest (tOp (rNotInD K) (tVar 16) (tVar 19))) (tOr (tTest (tOp (rI0 fun i j => .bl (decide (i < j))) (tVar 12) (tC (.int 2)))) (tTest (tOp (rNeD K) (tVar 16) (tVar 6)))))) (te := (tVar 16)) rfl sc_law.nd (pi_list (pv 9)) (blkOk_by (own := [("_law_one", 16)]) (N := N_law) (sc := defScope s_law) (by decide +kernel)) (fun _ _ _ _ _ => (pg_name (i := 16) sc_law.nd rfl (Or.inl rfl))) (fun _ _ _ _ _ => (pts_one (PW.pt (pw_and (pt_cmpR (op_notInD hr.units1) (pv 16) (pv 19) (by with_unfolding_all rfl)) (pw_and1 (PW.pt (pw_or (pt_cmpR op_lt (pv 12) pe_int (nomark _)) (pw_or1 (pt_cmpR (op_neD hr.units) (pv 16) (pv 6) (nomark _)))))))))) (fun _ _ _ _ _ => (pv 16))) (pe_lst pa_nil) (nomark _))
          (pss_cons (ps_ret pe_bl)
          pss_nil)
          pss_nil)
        pss_nil)))))
      (pss_cons (ps_set (i := 20) sc_law.nd rfl (Or.inr rfl) (pe_callTy (call_dictP rfl) (by rfl) B.m_dict (by decide +kernel) (pa_cons (pe_lc (own := [("_law_at", 12), ("_law_train", 23)]) (g := (gTup K 2 (gCons (gName 12) (gCons (gName 23) gNil)))) (tt := tYes) (te := (tTup (tCons (tOp (rIxT K) (tVar 23) (tC (.int 0))) (tCons (tOp rAddT (tC (.str "w")) (tOp rIxS (tC (.str "zyxwvutsrqponmlkjihgfedcba")) (tVar 12))) tNil)))) rfl sc_law.nd (pi_enumT (by rfl) B.m_enumerate (pa_cons (pe_ix ix_tup (pv 4) pe_int (fun _ _ => rfl)) pa_nil)) (blkOk_by (own := [("_law_at", 12), ("_law_train", 23)]) (N := N_law) (sc := defScope s_law) (by decide +kernel)) (fun _ _ _ _ _ => (pg_tup rfl (pgs_cons (pg_name (i := 12) sc_law.nd rfl (Or.inl rfl)) (pgs_cons (pg_name (i := 23) sc_law.nd rfl (Or.inl rfl)) pgs_nil)))) (fun _ _ _ _ _ => pts_nil) (fun _ _ _ _ _ => (pe_tup (pa_cons (pe_ix ix_tup (pv 23) pe_int (fun _ _ => rfl)) (pa_cons (pe_op op_addT pe_str (pe_ix ix_str pe_str (pv 12) (fun _ _ => rfl))) pa_nil))))) pa_nil)))
      (pss_cons (ps_set (i := 21) sc_law.nd rfl (Or.inl rfl) (pe_tup (pa_cons (pe_ix ix_tup (pv 4) pe_int (fun _ _ => rfl)) (pa_cons (pe_callTy call_tuple_of (by rfl) B.m_tuple (by decide +kernel) (pa_cons (pe_callB (cr_sortD hr.units1) (by rfl) B.m_sorted (by decide +kernel) (pa_cons (pe_lc (own := [("_law_one", 16), ("_law_where", 17), ("_law_left", 18)]) (g := (gTup K 3 (gCons (gName 16) (gCons (gName 17) (gCons (gName 18) gNil))))) (tt := tYes) (te := (tTup (tCons (tDGet (tVar 20) (tVar 16)) (tCons (tVar 17) (tCons (tVar 18) tNil))))) rfl sc_law.nd (pi_tup (pe_ix ix_tup (pv 4) pe_int (fun _ _ => rfl))) (blkOk_by (own := [("_law_one", 16), ("_law_where", 17), ("_law_left", 18)]) (N := N_law) (sc := defScope s_law) (by decide +kernel)) (fun _ _ _ _ _ => (pg_tup rfl (pgs_cons (pg_name (i := 16) sc_law.nd rfl (Or.inl rfl)) (pgs_cons (pg_name (i := 17) sc_law.nd rfl (Or.inl rfl)) (pgs_cons (pg_name (i := 18) sc_law.nd rfl (Or.inl rfl)) pgs_nil))))) (fun _ _ _ _ _ => pts_nil) (fun _ _ _ _ _ => (pe_tup (pa_cons (pe_dget hu (pv 20) (pv 16) (fun _ _ => rfl)) (pa_cons (pv 17) (pa_cons (pv 18) pa_nil)))))) pa_nil)) pa_nil)) pa_nil))))
      (pss_cons (ps_for PassesOwn.never rfl (pi_tup (pe_ix ix_tup (pv 4) pe_int (fun _ _ => rfl))) (pg_tup rfl (pgs_cons (pg_name (i := 16) sc_law.nd rfl (Or.inl rfl)) (pgs_cons (pg_name (i := 17) sc_law.nd rfl (Or.inl rfl)) (pgs_cons (pg_name (i := 18) sc_law.nd rfl (Or.inl rfl)) pgs_nil))))
        (pss_cons (ps_set (i := 19) sc_law.nd rfl (Or.inr rfl) (pe_lst (pa_cons (pe_c c_gets_home hr (by decide) (by rfl) (pa_cons (pv 3) (pa_cons (pv 4) (pa_cons (pv 16) pa_nil)))) (pa_cons (pe_c c_far hr (by decide) (by rfl) (pa_cons (pv 3) (pa_cons (pv 4) (pa_cons (pv 16) pa_nil)))) (pa_cons (pe_c c_bar hr (by decide) (by rfl) (pa_cons (pv 3) (pa_cons (pv 4) (pa_cons (pv 16) pa_nil)))) pa_nil)))))
        (pss_cons (ps_set (i := 22) sc_law.nd rfl (Or.inl rfl) (pe_dget hu (pv 20) (pv 16) (fun _ _ => rfl)))
        (pss_cons (ps_if (pt_not (pt_val (pe_cG c__law_alike hgd hr (by decide) (by rfl) (pa_cons (pe_lst (pa_cons (pe_c c_gets_home hr (by decide) (by rfl) (pa_cons (pv 3) (pa_cons (pv 21) (pa_cons (pv 22) pa_nil)))) (pa_cons (pe_c c_far hr (by decide) (by rfl) (pa_cons (pv 3) (pa_cons (pv 21) (pa_cons (pv 22) pa_nil)))) (pa_cons (pe_c c_bar hr (by decide) (by rfl) (pa_cons (pv 3) (pa_cons (pv 21) (pa_cons (pv 22) pa_nil)))) pa_nil)))) (pa_cons (pv 19) pa_nil)))))
          (pss_cons (ps_ret pe_bl)
          pss_nil)
          pss_nil)
        pss_nil))))
      pss_nil))))))))))))))
    (pss_cons (ps_ret pe_bl)
    pss_nil))), ?_⟩
  obtain ⟨D0, hD0⟩ : ∃ D0 : Ends, D0 = { nx := fun _ H' => Q .non H', rt := Q } := ⟨_, rfl⟩
  refine tr_bag (v := v) (i := 0) (j := 1) (g := fun b => [.any, .rf b, .any, .any, .any, .any, .any, .any, .any, .any, .any, .any, .any, .any, .any, .any, .any, .any, .any, .any, .any, .any, .any, .any]) rfl hv (by show 1 < 24; decide) (fun b => rfl) fun b c H' => ?_
  refine tr_for (src_rng1 (n := 3) (ea_cons ev_int ea_nil) (by omega) (by omega)).p (fun _ _ s => s = ⟨[.any, .rf b, .any, .any, .any, .any, .any, .any, .any, .any, .any, .any, .any, .any, .any, .any, .any, .any, .any, .any, .any, .any, .any, .any], [], some (b, c)⟩) (fun _ _ _ => rfl) (fun _ _ _ e => by subst e; rfl) ?_ ?_
  · rintro n ty ⟨rfl, rfl⟩ H1 B1 i s hi rfl
    refine ⟨_, _, bd_name (by show 2 < 24; decide), ?_⟩
    refine tr_asgT (Φ := isDrawn) (ev_if (et_test (ev_opD (ev_var rfl) ev_int rd_b0)) (fun _ => ev_drawD rfl (ev_var rfl) ea_nil ⟨rfl, rfl⟩) fun _ => ev_drawD rfl (ev_var rfl) ea_nil ⟨rfl, rfl⟩) ?_
    rintro t ⟨L, Z, rfl, O, G, h1, h5⟩
    refine ⟨_, _, bd_pair (by show 3 < 24; decide) (by show 4 < 24; decide), ?_⟩
    have OZ := G.ok O (by omega)
    refine tr_asg (Φ := fun t => ∃ kvs, t = .dK kvs ∧ NearOk L kvs) (by show 5 < 24; decide) (ev_callD (ts := [.im (lD L)]) (ea_cons (ev_var rfl) ea_nil) ⟨L, rfl, O, rfl⟩) ?_
    rintro t ⟨kvs, rfl, N⟩
    refine tr_asgD (t := .im (.list (((Z.2.filter (homeB L Z)).map (·.1)).map nD))) (by show 9 < 24; decide) (ev_lcE (as := Z.2) (f := tD) (h := nD) (c := homeB L Z) (e := fun t => t.1) (srcT (ev_z1 (ev_var (t := stnTy Z) rfl))) (by omega) fun H2 B2 Dc acc a ha => ⟨_, _, bd_tup (bds_cons (bd_name (by show 6 < 24; decide)) (bds_cons (bd_name (by show 7 < 24; decide)) (bds_cons (bd_name (by show 8 < 24; decide)) bds_nil))), by decide, rfl, rfl, et_B (ev_c (ts := [.im (lD L), stnTy Z, .im (nD a.1)]) (ea_cons (ev_var rfl) (ea_cons (ev_var rfl) (ea_cons (ev_var rfl) ea_nil))) ⟨L, Z, a, rfl, O, OZ, ha, rfl⟩), fun _ => ev_var rfl⟩) ?_
    refine tr_asg (Φ := fun t => ∃ a ∈ L.1, t = .im (nD a)) (by show 7 < 24; decide) (ev_someL (ds := L.1.map nD) rfl (ev_var rfl) (ev_lstT (ev_ixT (ev_var (t := .im (lD L)) rfl))) (fun z => O.ne (List.map_eq_nil_iff.mp z)) (by rw [List.length_map]; have := O.sn; omega) ?_) ?_
    · intro d hd
      obtain ⟨a, ha, rfl⟩ := List.mem_map.mp hd
      exact ⟨a, ha, rfl⟩
    rintro t ⟨a, ha, rfl⟩
    -- a train more
    refine tr_asgC (Φ := fun t => ∃ n st, n ∉ Z.2.map (·.1) ∧ st.length ≤ 3 ∧ Goes L a st ∧ t = pairTy L (withT Z (n, a, st))) (by show 10 < 24; decide) (ev_pairP (L := L) (Ψ := fun t => ∃ n st, n ∉ Z.2.map (·.1) ∧ st.length ≤ 3 ∧ Goes L a st ∧ t = stnTy (withT Z (n, a, st))) (ev_var rfl) (ev_call (ea_consP (Φ := dt (stnTy Z)) (ev_var rfl) (ea_consP (Φ := fun t => ∃ n st, n ∉ Z.2.map (·.1) ∧ st.length ≤ 3 ∧ Goes L a st ∧ t = .im (tD (n, a, st))) (ev_tupP (ea_consP (Φ := fun t => ∃ n : Nm, t = .im (nD n) ∧ n ∉ Z.2.map (·.1)) (ev_callD (ts := [stnTy Z]) (ea_cons (ev_var rfl) ea_nil) ⟨Z, rfl, by omega, rfl⟩) (ea_consP (Φ := dt (.im (nD a))) (ev_var rfl) (ea_consP (Φ := fun t => ∃ st : List Nm, t = .im (sD st) ∧ st.length ≤ 3 ∧ Goes L a st) (ev_drawD (ts := [.dK kvs, .im (nD a), .im (.int 3)]) rfl (ev_var rfl) (ea_cons (ev_var rfl) (ea_cons (ev_var rfl) (ea_cons ev_int ea_nil))) ⟨L, kvs, a, 3, rfl, O, N, ha, by decide, rfl⟩) ea_nil))) ?_) ea_nil)) ?_) ?_) ?_
    · rintro ts ⟨_, _, rfl, ⟨n, rfl, hn⟩, _, _, rfl, rfl, _, _, rfl, ⟨st, rfl, hl, hg⟩, rfl⟩
      exact ⟨[nD n, nD a, sD st], rfl, by show 3 ≤ 100000; decide, n, st, hn, hl, hg, rfl⟩
    · rintro ts ⟨_, _, rfl, rfl, _, _, rfl, ⟨n, st, hn, hl, hg, rfl⟩, rfl⟩
      exact ⟨_, ⟨Z, _, rfl, by omega, rfl⟩, fun t e => ⟨n, st, hn, hl, hg, e⟩⟩
    · rintro t ⟨n, st, hn, hl, hg, rfl⟩
      exact ⟨_, rfl, n, st, hn, hl, hg, rfl⟩
    rintro t ⟨n1, st, hn, hl, hg, rfl⟩
    refine ⟨_, _, rfl, fun p => ?_⟩
    have C1 := case_new (nm := n1) (all := True) O G h5 hn ha hl hg
    -- a wider section
    refine tr_appC (qs := [(L, withT Z (n1, a, st))]) rfl (by show 1 < 100000; decide) (ev_drawD (ts := [.im (lD L), stnTy Z]) rfl (ev_var rfl) (ea_cons (ev_var rfl) (ea_cons (ev_var rfl) ea_nil)) ⟨L, Z, rfl, O.sl, OZ.zl, rfl⟩) ?_
    rintro t ⟨L', Z', rfl, hw⟩
    refine ⟨L', Z', rfl, ?_⟩
    -- a longer walk
    refine tr_asgT (Φ := fun t => ∃ u ∈ Z.2, t = .im (tD u)) (ev_someL (ds := Z.2.map tD) rfl (ev_var rfl) (ev_lstT (ev_z1 (ev_var (t := stnTy Z) rfl))) (fun z => by rw [List.map_eq_nil_iff.mp z] at h1; exact absurd h1 (by decide)) (by rw [List.length_map]; omega) ?_) ?_
    · intro d hd
      obtain ⟨u, hu, rfl⟩ := List.mem_map.mp hd
      exact ⟨u, hu, rfl⟩
    rintro t ⟨u, hu, rfl⟩
    refine ⟨_, _, bd_tup (bds_cons (bd_name (by show 6 < 24; decide)) (bds_cons (bd_name (by show 7 < 24; decide)) (bds_cons (bd_name (by show 8 < 24; decide)) bds_nil))), ?_⟩
    have hu1 := (G.tr u hu).1
    have hu2 := (G.tr u hu).2
    have hlast : lastOf u.2.1 u.2.2 ∈ L.1 := lastOf_in hu1.pl (Goes.in O (a := u.2.1) hu1.go)
    refine tr_asg (Φ := fun t => ∃ ws : List Nm, t = .im (sD (u.2.2 ++ ws)) ∧ ws.length ≤ 3 ∧ Goes L (lastOf u.2.1 u.2.2) ws) (by show 11 < 24; decide) (ev_op (Φ1 := dt (.im (.tuple (u.2.2.map nD)))) (Φ2 := fun t => ∃ ws : List Nm, t = .im (sD ws) ∧ ws.length ≤ 3 ∧ Goes L (lastOf u.2.1 u.2.2) ws) (ev_var rfl) (ev_drawD (ts := [.dK kvs, .im (nD (lastOf u.2.1 u.2.2)), .im (.int 3)]) rfl (ev_var rfl) (ea_cons (ev_var rfl) (ea_cons (ev_if (et_test (ev_neE encSs (a := u.2.2) (b := []) (ev_var rfl) ev_tup0)) (fun e => ?_) fun e => ?_) (ea_cons ev_int ea_nil))) ⟨L, kvs, lastOf u.2.1 u.2.2, 3, rfl, O, N, hlast, by decide, rfl⟩) ?_) ?_
    · have hne : u.2.2 ≠ [] := ndec_t e
      have hg : ((u.2.2.map nD)).getLast? = some (nD (lastOf u.2.1 u.2.2)) := by
        rw [List.getLast?_map, getLast_lastOf u.2.1 hne]
        rfl
      exact ev_opD (ev_var (t := .im (.tuple (u.2.2.map nD))) rfl) (ev_neg ev_int) (rd_ixT (at_last hg))
    · have he : u.2.2 = [] := ndec_f e
      rw [he]
      exact ev_var (t := .im (nD u.2.1)) rfl
    · rintro _ _ rfl ⟨ws, rfl, hl, hg⟩
      exact fun M x y H T hx hy Q q => rd_catT (ds := u.2.2.map nD) (es := ws.map nD) (by rw [List.length_map, List.length_map]; omega) M x y H T hx hy Q fun w v H' e => q w v H' ⟨ws, by rw [e, ← List.map_append]; rfl, hl, hg⟩
    rintro t ⟨ws, rfl, hwl, hwg⟩
    have C3 := case_long O G h5 hu hwl hwg
    refine tr_appC (qs := [(L, withT Z (n1, a, st)), (L', Z')]) (Φ := dt (pairTy L (withT Z (u.1, u.2.1, u.2.2 ++ ws)))) rfl (by show 2 < 100000; decide) (ev_pairP (L := L) (Ψ := dt (stnTy (withT Z (u.1, u.2.1, u.2.2 ++ ws)))) (ev_var rfl) (ev_c (ts := [stnTy Z, .im (tD (u.1, u.2.1, u.2.2 ++ ws))]) (ea_cons (ev_var rfl) (ea_cons (ev_tup3 (ev_var (t := .im (nD u.1)) rfl) (ev_var (t := .im (nD u.2.1)) rfl) (ev_var (t := .im (sD (u.2.2 ++ ws))) rfl)) ea_nil)) ⟨Z, _, rfl, by omega, rfl⟩) fun t e => ⟨_, e, rfl⟩) ?_
    rintro t rfl
    refine ⟨_, _, rfl, ?_⟩
    refine tr_frz (i := 10) rfl ?_
    have HC : ∀ j q, [(L, withT Z (n1, a, st)), (L', Z'), (L, withT Z (u.1, u.2.1, u.2.2 ++ ws))][j]? = some q → CaseOk L Z q (j < 2) u.1 := fun j q e => by
      match j, e with
      | 0, e =>
        cases e
        exact ⟨C1.lin, C1.stn, fun t ht h _ => C1.home t ht h (.inl trivial)⟩
      | 1, e =>
        cases e
        exact case_wide O G hw
      | 2, e =>
        cases e
        exact ⟨C3.lin, C3.stn, fun t ht h o => C3.home t ht h (o.imp (fun z => absurd z (by decide)) id)⟩
      | j + 3, e => simp at e
    refine tr_weak (g := [.any, .rf b, .any, .im (lD L), stnTy Z, .any, .im (nD u.1), .any, .any, .im (.list (((Z.2.filter (homeB L Z)).map (·.1)).map nD)), (casesO [(L, withT Z (n1, a, st)), (L', Z'), (L, withT Z (u.1, u.2.1, u.2.2 ++ ws))]).ty, .any, .any, .any, .any, .any, .any, .any, .any, .any, .any, .any, .any, .any]) (by repeat (first | exact Wk.nil | refine Wk.same ?_ | refine Wk.any ?_)) ?_
    refine tr_for (src_enumC (qs := [(L, withT Z (n1, a, st)), (L', Z'), (L, withT Z (u.1, u.2.1, u.2.2 ++ ws))]) (ev_var rfl)) (fun _ _ s => s = ⟨[.any, .rf b, .any, .im (lD L), stnTy Z, .any, .im (nD u.1), .any, .any, .im (.list (((Z.2.filter (homeB L Z)).map (·.1)).map nD)), (casesO [(L, withT Z (n1, a, st)), (L', Z'), (L, withT Z (u.1, u.2.1, u.2.2 ++ ws))]).ty, .any, .any, .any, .any, .any, .any, .any, .any, .any, .any, .any, .any, .any], [], some (b, c)⟩) (fun _ _ _ => rfl) (fun _ _ _ e => by subst e; rfl) ?_ ?_
    · rintro n ty ⟨rfl, hty⟩ H2 B2 j s hj rfl
      obtain ⟨q0, hq⟩ : ∃ q0, [(L, withT Z (n1, a, st)), (L', Z'), (L, withT Z (u.1, u.2.1, u.2.2 ++ ws))][j]? = some q0 := ⟨_, List.getElem?_eq_getElem hj⟩
      rw [hty j q0 hq]
      have C := HC j q0 hq
      have OC := C.stn.ok C.lin (by omega)
      refine ⟨_, _, bd_enC (by show 12 < 24; decide) (by show 13 < 24; decide) (by show 14 < 24; decide), ?_⟩
      refine tr_asg (Φ := fun t => ∃ us : List Trn, (∃ (ts : List Trn) (ps : List Key2), RunEnd q0.1 q0.2 ts ps ∧ us.Perm ts) ∧ t = .im (.tuple (us.map tD))) (by show 15 < 24; decide) (ev_run1 (P := fun us => ∃ (ts : List Trn) (ps : List Key2), RunEnd q0.1 q0.2 ts ps ∧ us.Perm ts) (ev_draw (Ψ := dt2 [.im (lD q0.1), stnTy q0.2, .im .none]) rfl (ev_var rfl) (ea_cons (ev_var rfl) (ea_cons (ev_var rfl) (ea_cons ev_non ea_nil))) fun ts e => ⟨_, ⟨q0.1, q0.2, e, C.lin, OC, C.stn.st.nd C.lin, rfl⟩, fun t ⟨us, ts, ps, R, hp, e⟩ => ⟨us, ⟨ts, ps, R, hp⟩, e⟩⟩)) ?_
      rintro t ⟨us, ⟨ts, ps, R, hp⟩, rfl⟩
      have hul : us.length ≤ 100 := by
        rw [hp.length_eq, R.len]
        exact OC.nl
      refine tr_asgD (t := .im (.list ((toldOf us).map nD))) (by show 19 < 24; decide) (ev_lcE (as := us) (f := tD) (h := nD) (c := fun u => decide (u.2.2 = [])) (e := fun u => u.1) (srcT (ev_var rfl)) (by omega) fun H3 B3 Dc acc a ha => ⟨_, _, bd_tup (bds_cons (bd_name (by show 16 < 24; decide)) (bds_cons (bd_name (by show 17 < 24; decide)) (bds_cons (bd_name (by show 18 < 24; decide)) bds_nil))), by decide, rfl, rfl, ?_, fun _ => ev_var rfl⟩) ?_
      · obtain ⟨t2, h1, h2, h3⟩ := run_home R hp ha
        rw [← h3]
        exact et_B (ev_c (ts := [.im (lD q0.1), stnTy q0.2, .im (nD a.1)]) (ea_cons (ev_var rfl) (ea_cons (ev_var rfl) (ea_cons (ev_var rfl) ea_nil))) ⟨q0.1, q0.2, t2, by rw [h2], C.lin, OC, h1, rfl⟩)
      refine tr_ifD (b := false) ((et_test (ev_neE encS.ll (a := toldOf us) (b := toldOf us) (ev_var rfl) (ev_lcE (as := us) (f := tD) (h := nD) (c := fun u => decide (u.2.2 = [])) (e := fun u => u.1) (srcT (ev_var rfl)) (by omega) fun H3 B3 Dc acc a ha => ⟨_, _, bd_tup (bds_cons (bd_name (by show 16 < 24; decide)) (bds_cons (bd_name (by show 17 < 24; decide)) (bds_cons (bd_name (by show 18 < 24; decide)) bds_nil))), by decide, rfl, rfl, et_test (ev_eqE encSs (a := a.2.2) (b := []) (ev_var rfl) ev_tup0), fun _ => ev_var rfl⟩))).eq (by rw [decide_eq_true rfl]; rfl)) (fun e => by cases e) fun _ => ?_
      have hgone : (((Z.2.filter (homeB L Z)).map (·.1)).filter fun n => !decide (n ∈ toldOf us) && (decide (((j : Nat) : Int) < 2) || !decide (n = u.1))) = [] := List.filter_eq_nil_iff.mpr fun n hn => by
        obtain ⟨t, ht, rfl⟩ := List.mem_map.mp hn
        obtain ⟨ht, hth⟩ := List.mem_filter.mp ht
        intro z
        rw [Bool.and_eq_true, Bool.or_eq_true, decide_eq_true_eq] at z
        refine absurd (none_lost C R hp ht hth (z.2.imp (fun y => by omega) fun y => ndec_t y.symm)) (ndec_t z.1.symm)
      refine tr_ifD (b := false) ((et_test (ev_neE encS.ll (a := []) (b := []) ((ev_lcE (as := (Z.2.filter (homeB L Z)).map (·.1)) (f := nD) (h := nD) (c := fun n => !decide (n ∈ toldOf us) && (decide (((j : Nat) : Int) < 2) || !decide (n = u.1))) (e := fun n => n) (srcL (ev_var rfl)) (by have := List.length_filter_le (homeB L Z) Z.2; rw [List.length_map]; omega) fun H3 B3 Dc acc a ha => ⟨_, _, bd_name (by show 16 < 24; decide), by decide, rfl, rfl, et_and ((et_test (ev_opD (ev_var rfl) (ev_var rfl) (rd_ni encS (a := a) (as := toldOf us)))).eq (congrArg (!·) (dec_any _ _))) fun _ => et_or (et_test (ev_opD (ev_var rfl) ev_int rd_b0)) fun _ => et_test (ev_neE encS (a := a) (b := u.1) (ev_var rfl) (ev_var rfl)), fun _ => ev_var rfl⟩).eq (by rw [hgone]; rfl)) ev_lst0)).eq (by rw [decide_eq_true rfl]; rfl)) (fun e => by cases e) fun _ => ?_
      exact tr_next fun σ H S => ⟨_, rfl, S.weak (by repeat (first | exact Wk.nil | refine Wk.same ?_ | refine Wk.any ?_))⟩
    · rintro n ty _ s rfl
      -- other names
      refine tr_asgD (t := .dK (calD Z)) (by show 20 < 24; decide) ((em_dictP (ts := Z.2.map fun t => (t.1, nD (reN Z t.1))) (ev_lc (Φ := dt (.im (.list ((Z.2.map fun t => (t.1, nD (reN Z t.1))).map fun q : Nm × PyData => .tuple [nD q.1, q.2])))) (src_enumT (ds := Z.2.map tD) (ea_cons (ev_z1 (ev_var (t := stnTy Z) rfl)) ea_nil)).p (fun _ i acc => acc = ((Z.2.map fun t => (t.1, nD (reN Z t.1))).map fun q : Nm × PyData => .tuple [nD q.1, q.2]).take i) (fun n ty ⟨e, _⟩ => ⟨by rw [e, List.length_map]; omega, rfl⟩) ?_ ?_) (by rw [List.map_map]; exact G.nm)).ev fun m e => by rw [e]; rfl) ?_
      · rintro n ty ⟨rfl, rfl⟩ H2 B2 Dc i acc hi rfl
        rw [List.length_map] at hi
        have hz : Z.2[i]? = some Z.2[i] := List.getElem?_eq_getElem hi
        generalize Z.2[i] = z at hz
        show ∃ ws s', Bd _ _ _ _ (Ty.im (.tuple [.int (i : Nat), (Z.2.map tD).getD i .none])) ws s' ∧ _
        rw [getD_map tD hz]
        refine ⟨_, _, bd_tup (bds_cons (bd_name (by show 12 < 24; decide)) (bds_cons (bd_name (by show 23 < 24; decide)) bds_nil)), by decide, rfl, rfl, fun b => b = true, et_yes, (fun e => by cases e), fun _ => ?_⟩
        obtain ⟨ch, c1, c2⟩ := wN_str (i := i) (by omega)
        refine (ev_tup2 (ev_ixT (ev_var (t := .im (tD z)) rfl)) (ev_opD ev_str (ev_opD (ev_str (n := zyx)) (ev_var rfl) (rd_ixS (z := zyx) (by decide +kernel) c1)) (rd_addT (u := "w") (by show 1 + 1 ≤ 100000; decide)))).imp fun t e => ⟨_, e, ?_⟩
        have hm : ((Z.2.map fun t => (t.1, nD (reN Z t.1))).map fun q : Nm × PyData => PyData.tuple [nD q.1, q.2])[i]? = some (.tuple [nD z.1, nD (reN Z z.1)]) := by
          rw [List.getElem?_map, List.getElem?_map, hz]
          rfl
        rw [take_next hm]
        have e2 : reN Z z.1 = wN i := by
          unfold reN
          rw [idx_at G.nm hz]
        rw [e2, ← c2]
      · rintro n ty ⟨rfl, rfl⟩ acc rfl
        show Ty.im _ = Ty.im _
        rw [List.take_of_length_le (by rw [List.length_map, List.length_map, List.length_map]; exact Nat.le_refl _)]
      refine tr_asgD (t := stnTy (reZ (reN Z) Z)) (by show 21 < 24; decide) (ev_stn (F := Z.1) (T := (reZ (reN Z) Z).2) (ev_z0 (ev_var (t := stnTy Z) rfl)) (ev_tupL (ev_sort srtT encT (as := Z.2.map (reT (reN Z))) (ev_lcM (as := Z.2) (f := tD) (h := tD) (e := reT (reN Z)) (srcT (ev_z1 (ev_var (t := stnTy Z) rfl))) (by omega) fun H2 B2 Dc acc a ha => ⟨_, _, bd_tup (bds_cons (bd_name (by show 16 < 24; decide)) (bds_cons (bd_name (by show 17 < 24; decide)) (bds_cons (bd_name (by show 18 < 24; decide)) bds_nil))), by decide, rfl, rfl, ev_tup3 (ev_dgetK (d := nD (reN Z a.1)) (dk_dataK (ev_var rfl)) (ev_var (t := .im (nD a.1)) rfl) (calD_val G.nm ha)) (ev_var (t := .im (nD a.2.1)) rfl) (ev_var (t := .im (sD a.2.2)) rfl)⟩) (by rw [List.length_map]; omega)))) ?_
      have inj := reN_inj G.nm h5
      have GR : StnG L (reZ (reN Z) Z) 40 := reZ_ok G inj
      have OR := GR.ok O (by omega)
      refine tr_weak (g := [.any, .rf b, .any, .im (lD L), stnTy Z, .any, .any, .any, .any, .any, .any, .any, .any, .any, .any, .any, .any, .any, .any, .any, .dK (calD Z), stnTy (reZ (reN Z) Z), .any, .any]) (by repeat (first | exact Wk.nil | refine Wk.same ?_ | refine Wk.any ?_)) ?_
      refine tr_forE (as := Z.2) (f := tD) (srcT (ev_z1 (ev_var (t := stnTy Z) rfl))) (fun _ s => s = ⟨[.any, .rf b, .any, .im (lD L), stnTy Z, .any, .any, .any, .any, .any, .any, .any, .any, .any, .any, .any, .any, .any, .any, .any, .dK (calD Z), stnTy (reZ (reN Z) Z), .any, .any], [], some (b, c)⟩) rfl (fun _ _ e => by subst e; rfl) ?_ ?_
      · rintro H2 B2 j t _ hj rfl
        have ht := List.mem_of_getElem? hj
        have hre : reT (reN Z) t ∈ (reZ (reN Z) Z).2 := mem_reZ.mpr ⟨t, ht, rfl⟩
        refine ⟨_, _, bd_tup (bds_cons (bd_name (by show 16 < 24; decide)) (bds_cons (bd_name (by show 17 < 24; decide)) (bds_cons (bd_name (by show 18 < 24; decide)) bds_nil))), ?_⟩
        refine tr_asgD (t := .im (.list (tellD L Z t))) (by show 19 < 24; decide) (ev_lst3 (ev_c (ts := [.im (lD L), stnTy Z, .im (nD t.1)]) (ea_cons (ev_var rfl) (ea_cons (ev_var rfl) (ea_cons (ev_var rfl) ea_nil))) ⟨L, Z, t, rfl, O, OZ, ht, rfl⟩) (ev_c (ts := [.im (lD L), stnTy Z, .im (nD t.1)]) (ea_cons (ev_var rfl) (ea_cons (ev_var rfl) (ea_cons (ev_var rfl) ea_nil))) ⟨L, Z, t, rfl, O, OZ, ht, rfl⟩) (ev_c (ts := [.im (lD L), stnTy Z, .im (nD t.1)]) (ea_cons (ev_var rfl) (ea_cons (ev_var rfl) (ea_cons (ev_var rfl) ea_nil))) ⟨L, Z, t, rfl, O, OZ, ht, rfl⟩)) ?_
        refine tr_asgD (t := .im (nD (reN Z t.1))) (by show 22 < 24; decide) (ev_dgetK (dk_dataK (ev_var rfl)) (ev_var (t := .im (nD t.1)) rfl) (calD_val G.nm ht)) ?_
        have hs := tell_shw (t := t) O OZ (by have := (G.tr t ht).2; omega)
        have same : [PyData.bool (homeB L (reZ (reN Z) Z) (reT (reN Z) t)), .tuple ((farOf L (reZ (reN Z) Z) (reT (reN Z) t)).map kD), barD L (reZ (reN Z) Z) (reT (reN Z) t)] = tellD L Z t := by
          unfold tellD
          rw [homeB_re G.nm inj ht, far_re, bar_re G.nm inj ht]
        refine tr_ifD (b := false) ((et_not (b := true) (et_B (ev_c (ts := [.im (.list (tellD L Z t)), .im (.list (tellD L Z t))]) (ea_cons ((ev_lst3 (ev_c (ts := [.im (lD L), stnTy (reZ (reN Z) Z), .im (nD (reN Z t.1))]) (ea_cons (ev_var rfl) (ea_cons (ev_var rfl) (ea_cons (ev_var rfl) ea_nil))) ⟨L, reZ (reN Z) Z, reT (reN Z) t, rfl, O, OR, hre, rfl⟩) (ev_c (ts := [.im (lD L), stnTy (reZ (reN Z) Z), .im (nD (reN Z t.1))]) (ea_cons (ev_var rfl) (ea_cons (ev_var rfl) (ea_cons (ev_var rfl) ea_nil))) ⟨L, reZ (reN Z) Z, reT (reN Z) t, rfl, O, OR, hre, rfl⟩) (ev_c (ts := [.im (lD L), stnTy (reZ (reN Z) Z), .im (nD (reN Z t.1))]) (ea_cons (ev_var rfl) (ea_cons (ev_var rfl) (ea_cons (ev_var rfl) ea_nil))) ⟨L, reZ (reN Z) Z, reT (reN Z) t, rfl, O, OR, hre, rfl⟩)).eq (congrArg (fun z => Ty.im (.list z)) same)) (ea_cons (ev_var rfl) ea_nil)) ⟨tellD L Z t, 100000, rfl, hs, by decide, tell_eqv L Z t, tell_shape hs, rfl⟩)))) (fun e => by cases e) fun _ => ?_
        exact tr_next fun σ H S => ⟨_, rfl, S.weak (by repeat (first | exact Wk.nil | refine Wk.same ?_ | refine Wk.any ?_))⟩
      · rintro _ rfl
        exact tr_next fun σ H S => ⟨_, rfl, S.weak (by repeat (first | exact Wk.nil | refine Wk.same ?_ | refine Wk.any ?_))⟩
  · rintro n ty _ s rfl
    exact tr_ret (ev_bl (n := true)) fun σ t v H e S h => by
      subst e
      cases h
      exact q H
end
end Sx
set_option Elab.async false
set_option linter.all false
set_option maxRecDepth 100000
set_option maxHeartbeats 4000000
/-! The law called where no repr runs; a def by what the head tells. -/
namespace Sx
open PySem PySem.Spec PyProof.Rows L2
open C8 (Cal pe_c)
/-- a def that is called by the caller of the law -/
def RunG (P : Program) (w : World) (K : PySem.W.Frag) (mg : Str → Option Value) (base : Heap) (f : Addr) (fd : FuncData) (ps : List Str) (sp : Sp) : Prop :=
  ∀ (s : Shared) (H : Hp) (args : Args) (us : List Value) (vs : List V) (Q : VK) (E : XK), Env0 P w K mg base callerA [] s H → BindsTo s fd args (ps.zip us) → Vals vs us → sp vs H Q E → codeAny (model P w) callerA (.call (.ref f) args) (CR CX0 [] P w H s Q E) s
theorem call_G {P : Program} {w : World} {K : PySem.W.Frag} {mg mb : Str → Option Value} {f a : Addr} {fd : FuncData} {x : Str} {sp : Sp} {t : Shared} {us : List Value} {ns : List Int}
    (kin : K.In t.heap) (nsG : t.heap.Ns mainGlobals mg) (nsB : t.heap.Ns builtinsNs mb) (blt : ∀ y : Str, y ≠ "__name__" → mb y = bootBuiltins y) (lim : t.heap.NoLimit) (noGens : t.gens = #[])
    (stands : t.heap.get? a = some { cls := .type "list", data := .seq us.toArray }) (whole : IntsAre us ns) (few : ns.length ≤ sizeLine)
    (run : ∀ base : Heap, K.In base → base.Ns mainGlobals mg → RunG P w K mg base f fd [x] sp) (bind : ∀ (s : Shared) (u : Value), BindsTo s fd ⟨[u], []⟩ [(x, u)])
    (prom : ∀ H : Hp, SqL K H a (ns.map V.int) → sp [.ref a] H (fun v _ => v = .bl true) fun _ _ _ => False) :
    codeAny (model P w) callerA (.call (.ref f) ⟨[.ref a], []⟩) (fun r t2 => r = .ok (.ret (.bool true)) ∧ OldK t.heap t2.heap ∧ t2.os = t.os ∧ AllBare t2.gens) t := by
  have rel := vals_ints whole
  have len := whole.length
  obtain ⟨H, only, seq, ok, one, free⟩ : ∃ H : Hp, Only H ∧ SqL K H a (ns.map V.int) ∧ HOk P w H t.heap ∧ (∀ b, H b ≠ none → b = a) ∧ (H a ≠ none → K.lookup a = none) := by
    cases hk : K.lookup a with
    | some o =>
      have e := kin a o hk
      rw [stands] at e
      cases e
      refine ⟨fun _ => none, fun _ => .inl rfl, .inr ⟨_, us.toArray, _, hk, rfl, rfl, rfl, ?_, by simpa using rel⟩, fun b u z => (nomatch z), fun b z => absurd rfl z, fun z => absurd rfl z⟩
      rw [List.size_toArray, len]
      exact few
    | none =>
      have yes : ∀ {b : Addr} {v : HO}, (if b = a then some (HO.frz { cls := .type "list", data := .seq us.toArray } (.lst (ns.map V.int))) else none) = some v → b = a ∧ v = HO.frz { cls := .type "list", data := .seq us.toArray } (.lst (ns.map V.int)) := fun {b v} z => by
        by_cases e : b = a
        · rw [if_pos e] at z
          exact ⟨e, (Option.some.inj z).symm⟩
        · rw [if_neg e] at z
          cases z
      refine ⟨fun b => if b = a then some (.frz { cls := .type "list", data := .seq us.toArray } (.lst (ns.map V.int))) else none, fun b => ?_, .inl (.inr ⟨_, if_pos rfl⟩), fun b v z => ?_, fun b z => ?_, fun _ => rfl⟩
      · by_cases e : b = a
        · exact .inr ⟨_, _, if_pos e⟩
        · exact .inl (if_neg e)
      · obtain ⟨rfl, rfl⟩ := yes z
        exact ⟨stands, by rw [List.length_map]; exact few, us, _, rel, stands⟩
      · exact Classical.byContradiction fun e => z (if_neg e)
  have below : ∀ {b : Addr} {o : Obj}, t.heap.get? b = some o → H b = none → (hidT t.heap H).get? b = some o := fun e n => hidT_get e n
  have none_of : ∀ {b : Addr}, b ≠ a → H b = none := fun {b} n => Classical.byContradiction fun z => n (one b z)
  have space : ∀ {b : Addr} {m : Str → Option Value}, t.heap.Ns b m → (hidT t.heap H).Ns b m := fun {b m} ⟨o, es, ep, e, d, r⟩ => ⟨o, es, ep, below e (none_of fun z => by
    rw [z, stands] at e
    cases e
    have d : Data.seq us.toArray _ = Data.dict es ep := d
    cases d), d, r⟩
  have kin2 : K.In (hidT t.heap H) := fun b o e => below (kin b o e) (Classical.byContradiction fun z => by
    have e2 := one b z
    rw [e2] at z e
    rw [free z] at e
    cases e)
  have lim2 : (hidT t.heap H).NoLimit := by
    obtain ⟨mc, c1, c2⟩ := lim
    exact ⟨mc, space c1, c2⟩
  have env : Env0 P w K mg (hidT t.heap H) callerA [] t H := ⟨rfl, ⟨kin2, space nsG, ⟨mb, space nsB, blt⟩, lim2⟩, fun b o e => of_hidT e, Nat.le_of_eq (hidT_size _ _), trivial, fun b m => (nomatch m), ok, .of_eq noGens⟩
  refine codeAny_mono (run _ kin2 (space nsG) t H ⟨[.ref a], []⟩ [.ref a] [.ref a] _ _ env (bind t (.ref a)) (.cons rfl .nil) (prom H seq)) fun r t2 hr => ?_
  match r, hr with
  | .error e, hr => exact hr.elim
  | .ok .next, hr => exact hr.elim
  | .ok .brk, hr => exact hr.elim
  | .ok .cont, hr => exact hr.elim
  | .ok (.ret u), ⟨v, H2, os, bare, un, ok2, rv, q⟩ =>
    have q : v = .bl true := q
    subst q
    obtain rfl : u = Value.bool true := rv
    refine ⟨rfl, OldK.of_keep fun b o e => ?_, os, bare⟩
    rcases only b with z | ⟨ob, xs, z⟩
    · exact un.keep b o e z (fun m => (nomatch m)) (by simp)
    · have z2 := un.frzs b ob _ z
      have g1 := (ok b _ z).1
      have g2 := (ok2 b _ z2).1
      rw [e] at g1
      cases g1
      exact g2
theorem walk_G {l : PySem.W.OpenLaw} {n : Nat} {q : Program} {loose : List Str} {XP : (Str → Option Value) → Heap → Prop} {YP : World → Heap → Prop} {d : DefRec} {x : Str}
    (most : l.most = some n) (line : n ≤ sizeLine) (noDef : d.params.defaults = [])
    (F : ∀ (w : World) (mg : Str → Option Value) (f : Addr) (h : Heap), YP w h → h.Ns mainGlobals mg → mg d.name = some (.ref f) →
      ∃ (K : PySem.W.Frag) (fd : FuncData) (sp : Sp), K.In h ∧ (∀ (s : Shared) (u : Value), BindsTo s fd ⟨[u], []⟩ [(x, u)]) ∧ (∀ (H : Hp) (a : Addr) (ns : List Int), SqL K H a (ns.map V.int) → sp [.ref a] H (fun v _ => v = .bl true) fun _ _ _ => False) ∧
        ∀ base : Heap, K.In base → base.Ns mainGlobals mg → RunG l.prog w K mg base f fd [x] sp) :
    PySem.W.WalkO q loose XP YP l.row.toRowW d [] (fun f vs => PySem.call f vs) :=
  Att.attach_call most noDef fun w s0 s1 mg mb f o pm cd doc a vs ns G Y ho hd hcd hm hobj whole few noGens => by
    obtain ⟨K, fd, sp, kin, bind, prom, run⟩ := F w mg f _ Y G.T.g hm
    exact call_G kin G.T.g G.T.b G.T.builtins G.T.nolimit noGens hobj whole (Nat.le_trans few line) run bind fun H hS => prom H a ns hS
/-! ### defs by what the head tells -/
/-- the datum of a def of the top -/
def dd (x : Str) (st : Stmt) : He.DefD := ⟨(x, none), x, x, defArgs st, defBody st, defScope st, [], []⟩
section
variable {P : Program} {w : World} {K : PySem.W.Frag} {mg : Str → Option Value} {base : Heap} {fa : List He.Fa} {fn : List He.DefD}
theorem def_at {h : Heap} {x : Str} {st : Stmt} (X : K.In h) (G : h.Ns mainGlobals mg) (c : He.SaysD fa fn K) (i j : Nat) (hi : fn[i]? = some (dd x st)) (hj : fa[j]? = some (.glo x)) : ∃ (f : Addr) (fd : FuncData), C8.Def K mg x st f fd ∧ FunD K x x (defArgs st) (defBody st) (defScope st) [] [] f fd := by
  obtain ⟨fd, F⟩ := c.def_ i hi
  have F : FunD K x x (defArgs st) (defBody st) (defScope st) [] [] (He.fAd K (x, none)) fd := F
  obtain ⟨oc, od, dV, kV, doc, pm, an, cdv, ct, osl, e, lk, hcd, _, _⟩ := F.ex
  refine ⟨_, fd, ⟨⟨oc, od, dV, kV, doc, pm, an, cdv, ct, osl, e, lk, hcd⟩, ?_, F.kp⟩, F⟩
  exact He.glo_ok X G (c.fact j hj)
abbrev BindN (x : Str) (st : Stmt) (ps : List Str) : Prop := ∀ (kV doc pm : Value) (an : Option Addr) (cdv ct : Value) (us : List Value), us.length = ps.length → bindArgs (PySem.W.fnOf x x (defArgs st) (defBody st) (defScope st) .none kV doc pm an cdv ct) ⟨us, []⟩ = pure (ps.zip us)
theorem cal_at {h : Heap} {x : Str} {st : Stmt} {N ps : List Str} {k : Nat} {sp : Sp} (X : K.In h) (G : h.Ns mainGlobals mg) (c : He.SaysD fa fn K) (i j : Nat) (hi : fn[i]? = some (dd x st)) (hj : fa[j]? = some (.glo x)) (S : FnScope N ps (defScope st)) (b : BindN x st ps) (len : ∀ vs H Q E, sp vs H Q E → vs.length = ps.length) (body : Bod P w K mg base N x st k sp) : Cal P w K mg base (k + 1) x sp [] := by
  obtain ⟨f, fd, F, D⟩ := def_at X G c i j hi hj
  exact C8.cal0 F (D.bindsN b) .nil S len fun cdv A outer s H vs Q E hr h => body f cdv A outer s H vs Q E hr h
theorem calG_at {h : Heap} {x : Str} {st : Stmt} {N ps : List Str} {k : Nat} {sp : Sp} (X : K.In h) (G : h.Ns mainGlobals mg) (c : He.SaysD fa fn K) (i j : Nat) (hi : fn[i]? = some (dd x st)) (hj : fa[j]? = some (.glo x)) (S : FnScope N ps (defScope st)) (b : BindN x st ps) (len : ∀ vs H Q E, sp vs H Q E → vs.length = ps.length) (body : BodG P w K mg base N x st k sp) : CalG P w K mg base (k + 1) x sp := by
  obtain ⟨f, fd, F, D⟩ := def_at X G c i j hi hj
  exact calG F (D.bindsN b) S len body
end
/-! ### how many arguments -/
theorem len_F {S : List Ty → (Ty → Prop) → Prop} {n : Nat} (h : ∀ ts Φ, S ts Φ → ts.length = n) : ∀ vs H Q E, spF S vs H Q E → vs.length = n := fun vs H Q E ⟨_, ts, Φ, hS, _, hh, _⟩ => hh.len.trans (h ts Φ hS)
theorem len_B {S : List Ty → (Ty → Prop) → Prop} {n : Nat} (h : ∀ ts Φ, S ts Φ → ts.length = n) : ∀ vs H Q E, spB S vs H Q E → vs.length = n + 1 := fun vs H Q E ⟨_, _, _, us, ts, Φ, e, _, hS, _, hh, _⟩ => by
  rw [e, List.length_cons, hh.len, h ts Φ hS]
theorem len_N {S : List Ty → (MO → Prop) → Prop} {n : Nat} (h : ∀ ts Φ, S ts Φ → ts.length = n) : ∀ vs H Q E, spN S vs H Q E → vs.length = n := fun vs H Q E ⟨_, ts, Φ, hS, _, hh, _⟩ => hh.len.trans (h ts Φ hS)
theorem len_O {a b : Sp} {n : Nat} (h : ∀ vs H Q E, a vs H Q E → vs.length = n) (k : ∀ vs H Q E, b vs H Q E → vs.length = n) : ∀ vs H Q E, spOr a b vs H Q E → vs.length = n := fun vs H Q E z => z.elim (h vs H Q E) (k vs H Q E)
end Sx
set_option Elab.async false
set_option linter.all false
set_option maxRecDepth 100000
set_option maxHeartbeats 0
/-! The head. -/
namespace Sx
open PySem PySem.Spec PyProof.Rows L2
open C8 (Cal pe_c)
def fnL0 : List He.DefD := [dd "_law_bag" s__law_bag, dd "_law_near" s__law_near, dd "_law_take" s__law_take, dd "_law_some" s__law_some, dd "_law_mixed" s__law_mixed, dd "_law_word" s__law_word, dd "_law_names" s__law_names, dd "_law_line" s__law_line, dd "_law_walk" s__law_walk, dd "_law_trains" s__law_trains, dd "_law_counts" s__law_counts, dd "_law_evened" s__law_evened, dd "_law_staffs" s__law_staffs, dd "_law_standing" s__law_standing, dd "_law_small" s__law_small, dd "_law_middle" s__law_middle, dd "_law_wider" s__law_wider, dd "train_of" s_train_of, dd "rest_of" s_rest_of, dd "key_of" s_key_of]
def fnL1 : List He.DefD := [dd "staff_of" s_staff_of, dd "section" s_section, dd "sort_of" s_sort_of, dd "lies_open" s_lies_open, dd "gone_on" s_gone_on, dd "run_of" s_run_of, dd "open_run" s_open_run, dd "gets_home" s_gets_home, dd "_law_with_train" s__law_with_train, dd "_law_sorts" s__law_sorts, dd "_law_key" s__law_key, dd "_law_open_run" s__law_open_run, dd "place_of" s_place_of, dd "passes_of" s_passes_of, dd "keys_of" s_keys_of, dd "neighbours" s_neighbours, dd "came_from" s_came_from, dd "way" s_way, dd "is_far" s_is_far, dd "far" s_far]
def fnL2 : List He.DefD := [dd "names_of" s_names_of, dd "passes_left" s_passes_left, dd "needed" s_needed, dd "held" s_held, dd "bar" s_bar, dd "_law_alike" s__law_alike, dd "_law_new_name" s__law_new_name, dd "law" s_law]
def fnL : List He.DefD := fnL0 ++ (fnL1 ++ (fnL2))
def faL0 : List He.Fa := [.glo "_law_bag", .glo "_law_near", .glo "_law_take", .glo "_law_some", .glo "_law_mixed", .glo "_law_word", .glo "_law_names", .glo "_law_line", .glo "_law_walk", .glo "_law_trains", .glo "_law_counts", .glo "_law_evened", .glo "_law_staffs", .glo "_law_standing", .glo "_law_small", .glo "_law_middle", .glo "_law_wider", .glo "train_of", .glo "rest_of", .glo "key_of", .glo "staff_of", .glo "section", .glo "sort_of", .glo "lies_open", .glo "gone_on", .glo "run_of", .glo "open_run", .glo "gets_home", .glo "_law_with_train", .glo "_law_sorts", .glo "_law_key", .glo "_law_open_run", .glo "place_of", .glo "passes_of", .glo "keys_of"]
def faL1 : List He.Fa := [.glo "neighbours", .glo "came_from", .glo "way", .glo "is_far", .glo "far", .glo "names_of", .glo "passes_left", .glo "needed", .glo "held", .glo "bar", .glo "_law_alike", .glo "_law_new_name", .glo "law", .free "len", .free "tuple", .free "sorted", .free "zip", .free "set", .free "range", .free "list", .free "dict", .free "enumerate", .free "sum", .free "min", .free "abs", .free "int", .free "repr"]
def faL : List He.Fa := faL0 ++ (faL1)
def looseL0 : List Str := ["StaffError", "NoTrain", "key_of", "section", "sort_of", "keys_of", "neighbours", "came_from", "way", "train_of", "place_of", "rest_of", "passes_of", "names_of", "staff_of", "passes_left", "needed", "lies_open", "gone_on", "run_of", "open_run", "held", "gets_home", "is_far", "far", "bar", "_law_bag", "_law_take", "_law_some", "_law_mixed"]
def looseL1 : List Str := ["_law_alike", "_law_names", "_law_line", "_law_near", "_law_key", "_law_sorts", "_law_walk", "_law_trains", "_law_staffs", "_law_counts", "_law_evened", "_law_standing", "_law_small", "_law_open_run", "_law_word", "_law_middle", "_law_new_name", "_law_with_train", "_law_wider", "__name__"]
def looseL : List Str := looseL0 ++ (looseL1)
section
variable {P : Program} {w : World} {K : PySem.W.Frag} {mg : Str → Option Value} {base : Heap} {h : Heap}
theorem blt_at (X : K.In h) (G : h.Ns mainGlobals mg) (c : He.SaysD faL fnL K) : Bl mg := ⟨He.free_ok X G (c.fact 48 (f := .free "len") rfl), He.free_ok X G (c.fact 49 (f := .free "tuple") rfl), He.free_ok X G (c.fact 50 (f := .free "sorted") rfl), He.free_ok X G (c.fact 51 (f := .free "zip") rfl), He.free_ok X G (c.fact 52 (f := .free "set") rfl), He.free_ok X G (c.fact 53 (f := .free "range") rfl), He.free_ok X G (c.fact 54 (f := .free "list") rfl), He.free_ok X G (c.fact 55 (f := .free "dict") rfl), He.free_ok X G (c.fact 56 (f := .free "enumerate") rfl), He.free_ok X G (c.fact 57 (f := .free "sum") rfl), He.free_ok X G (c.fact 58 (f := .free "min") rfl), He.free_ok X G (c.fact 59 (f := .free "abs") rfl), He.free_ok X G (c.fact 60 (f := .free "int") rfl), He.free_ok X G (c.fact 61 (f := .free "repr") rfl)⟩
theorem at__law_bag (X : K.In h) (G : h.Ns mainGlobals mg) (c : He.SaysD faL fnL K) (B : Bl mg) : Cal P w K mg base 1 "_law_bag" (sp__law_bag K) [] :=
  cal_at (x := "_law_bag") (st := s__law_bag) (N := N__law_bag) (ps := ["_law_script"]) X G c 0 0 rfl rfl sc__law_bag (fun _ _ _ _ _ _ us hl => match us, hl with | [_], _ => rfl) (fun vs H Q E ⟨v, e, _⟩ => by rw [e]; rfl) (bd__law_bag B)
theorem at__law_near (X : K.In h) (G : h.Ns mainGlobals mg) (c : He.SaysD faL fnL K) (B : Bl mg) : Cal P w K mg base 1 "_law_near" sp__law_near [] :=
  cal_at (x := "_law_near") (st := s__law_near) (N := N__law_near) (ps := ["_law_line_here"]) X G c 1 1 rfl rfl sc__law_near (fun _ _ _ _ _ _ us hl => match us, hl with | [_], _ => rfl) (len_F (by intro ts Φ h; first | (obtain ⟨rfl, _⟩ := h; rfl) | (obtain ⟨_, rfl, _⟩ := h; rfl) | (obtain ⟨_, _, rfl, _⟩ := h; rfl) | (obtain ⟨_, _, _, rfl, _⟩ := h; rfl) | (obtain ⟨_, _, _, _, rfl, _⟩ := h; rfl) | (obtain ⟨_, _, _, _, _, rfl, _⟩ := h; rfl) | (obtain ⟨_, _, _, _, _, _, rfl, _⟩ := h; rfl))) (bd__law_near B)
theorem at__law_take (X : K.In h) (G : h.Ns mainGlobals mg) (c : He.SaysD faL fnL K) (B : Bl mg) : Cal P w K mg base 1 "_law_take" sp__law_take [] :=
  cal_at (x := "_law_take") (st := s__law_take) (N := N__law_take) (ps := ["_law_bag_here", "_law_many"]) X G c 2 2 rfl rfl sc__law_take (fun _ _ _ _ _ _ us hl => match us, hl with | [_, _], _ => rfl) (len_B (by intro ts Φ h; first | (obtain ⟨rfl, _⟩ := h; rfl) | (obtain ⟨_, rfl, _⟩ := h; rfl) | (obtain ⟨_, _, rfl, _⟩ := h; rfl) | (obtain ⟨_, _, _, rfl, _⟩ := h; rfl) | (obtain ⟨_, _, _, _, rfl, _⟩ := h; rfl) | (obtain ⟨_, _, _, _, _, rfl, _⟩ := h; rfl) | (obtain ⟨_, _, _, _, _, _, rfl, _⟩ := h; rfl))) (bd__law_take B)
theorem at__law_some (X : K.In h) (G : h.Ns mainGlobals mg) (c : He.SaysD faL fnL K) (B : Bl mg) (c__law_take : Cal P w K mg base 1 "_law_take" sp__law_take []) : Cal P w K mg base 2 "_law_some" sp__law_some [] :=
  cal_at (x := "_law_some") (st := s__law_some) (N := N__law_some) (ps := ["_law_bag_here", "_law_things"]) X G c 3 3 rfl rfl sc__law_some (fun _ _ _ _ _ _ us hl => match us, hl with | [_, _], _ => rfl) (len_O (len_B (by intro ts Φ h; first | (obtain ⟨rfl, _⟩ := h; rfl) | (obtain ⟨_, rfl, _⟩ := h; rfl) | (obtain ⟨_, _, rfl, _⟩ := h; rfl) | (obtain ⟨_, _, _, rfl, _⟩ := h; rfl) | (obtain ⟨_, _, _, _, rfl, _⟩ := h; rfl) | (obtain ⟨_, _, _, _, _, rfl, _⟩ := h; rfl) | (obtain ⟨_, _, _, _, _, _, rfl, _⟩ := h; rfl))) (len_B (by intro ts Φ h; first | (obtain ⟨rfl, _⟩ := h; rfl) | (obtain ⟨_, rfl, _⟩ := h; rfl) | (obtain ⟨_, _, rfl, _⟩ := h; rfl) | (obtain ⟨_, _, _, rfl, _⟩ := h; rfl) | (obtain ⟨_, _, _, _, rfl, _⟩ := h; rfl) | (obtain ⟨_, _, _, _, _, rfl, _⟩ := h; rfl) | (obtain ⟨_, _, _, _, _, _, rfl, _⟩ := h; rfl)))) (bd__law_some B c__law_take)
theorem at__law_mixed (X : K.In h) (G : h.Ns mainGlobals mg) (c : He.SaysD faL fnL K) (B : Bl mg) (c__law_take : Cal P w K mg base 1 "_law_take" sp__law_take []) : Cal P w K mg base 2 "_law_mixed" sp__law_mixed [] :=
  cal_at (x := "_law_mixed") (st := s__law_mixed) (N := N__law_mixed) (ps := ["_law_bag_here", "_law_things"]) X G c 4 4 rfl rfl sc__law_mixed (fun _ _ _ _ _ _ us hl => match us, hl with | [_, _], _ => rfl) (len_B (by intro ts Φ h; first | (obtain ⟨rfl, _⟩ := h; rfl) | (obtain ⟨_, rfl, _⟩ := h; rfl) | (obtain ⟨_, _, rfl, _⟩ := h; rfl) | (obtain ⟨_, _, _, rfl, _⟩ := h; rfl) | (obtain ⟨_, _, _, _, rfl, _⟩ := h; rfl) | (obtain ⟨_, _, _, _, _, rfl, _⟩ := h; rfl) | (obtain ⟨_, _, _, _, _, _, rfl, _⟩ := h; rfl))) (bd__law_mixed B c__law_take)
theorem at__law_word (X : K.In h) (G : h.Ns mainGlobals mg) (c : He.SaysD faL fnL K) (B : Bl mg) (c__law_some : Cal P w K mg base 2 "_law_some" sp__law_some []) (c__law_take : Cal P w K mg base 1 "_law_take" sp__law_take []) : Cal P w K mg base 3 "_law_word" sp__law_word [] :=
  cal_at (x := "_law_word") (st := s__law_word) (N := N__law_word) (ps := ["_law_bag_here", "_law_many"]) X G c 5 5 rfl rfl sc__law_word (fun _ _ _ _ _ _ us hl => match us, hl with | [_, _], _ => rfl) (len_B (by intro ts Φ h; first | (obtain ⟨rfl, _⟩ := h; rfl) | (obtain ⟨_, rfl, _⟩ := h; rfl) | (obtain ⟨_, _, rfl, _⟩ := h; rfl) | (obtain ⟨_, _, _, rfl, _⟩ := h; rfl) | (obtain ⟨_, _, _, _, rfl, _⟩ := h; rfl) | (obtain ⟨_, _, _, _, _, rfl, _⟩ := h; rfl) | (obtain ⟨_, _, _, _, _, _, rfl, _⟩ := h; rfl))) (bd__law_word B c__law_some c__law_take)
theorem at__law_names (X : K.In h) (G : h.Ns mainGlobals mg) (c : He.SaysD faL fnL K) (B : Bl mg) (c__law_take : Cal P w K mg base 1 "_law_take" sp__law_take []) (c__law_mixed : Cal P w K mg base 2 "_law_mixed" sp__law_mixed []) (c__law_word : Cal P w K mg base 3 "_law_word" sp__law_word []) (c__law_some : Cal P w K mg base 2 "_law_some" sp__law_some []) : Cal P w K mg base 4 "_law_names" sp__law_names [] :=
  cal_at (x := "_law_names") (st := s__law_names) (N := N__law_names) (ps := ["_law_bag_here", "_law_many"]) X G c 6 6 rfl rfl sc__law_names (fun _ _ _ _ _ _ us hl => match us, hl with | [_, _], _ => rfl) (len_B (by intro ts Φ h; first | (obtain ⟨rfl, _⟩ := h; rfl) | (obtain ⟨_, rfl, _⟩ := h; rfl) | (obtain ⟨_, _, rfl, _⟩ := h; rfl) | (obtain ⟨_, _, _, rfl, _⟩ := h; rfl) | (obtain ⟨_, _, _, _, rfl, _⟩ := h; rfl) | (obtain ⟨_, _, _, _, _, rfl, _⟩ := h; rfl) | (obtain ⟨_, _, _, _, _, _, rfl, _⟩ := h; rfl))) (bd__law_names B c__law_take c__law_mixed c__law_word c__law_some)
theorem at__law_line (X : K.In h) (G : h.Ns mainGlobals mg) (c : He.SaysD faL fnL K) (B : Bl mg) (c__law_names : Cal P w K mg base 4 "_law_names" sp__law_names []) (c__law_take : Cal P w K mg base 1 "_law_take" sp__law_take []) (c__law_some : Cal P w K mg base 2 "_law_some" sp__law_some []) : Cal P w K mg base 5 "_law_line" sp__law_line [] :=
  cal_at (x := "_law_line") (st := s__law_line) (N := N__law_line) (ps := ["_law_bag_here", "_law_many", "_law_sorts_here"]) X G c 7 7 rfl rfl sc__law_line (fun _ _ _ _ _ _ us hl => match us, hl with | [_, _, _], _ => rfl) (len_B (by intro ts Φ h; first | (obtain ⟨rfl, _⟩ := h; rfl) | (obtain ⟨_, rfl, _⟩ := h; rfl) | (obtain ⟨_, _, rfl, _⟩ := h; rfl) | (obtain ⟨_, _, _, rfl, _⟩ := h; rfl) | (obtain ⟨_, _, _, _, rfl, _⟩ := h; rfl) | (obtain ⟨_, _, _, _, _, rfl, _⟩ := h; rfl) | (obtain ⟨_, _, _, _, _, _, rfl, _⟩ := h; rfl))) (bd__law_line B c__law_names c__law_take c__law_some)
theorem at__law_walk (X : K.In h) (G : h.Ns mainGlobals mg) (c : He.SaysD faL fnL K) (B : Bl mg) (c__law_some : Cal P w K mg base 2 "_law_some" sp__law_some []) (c__law_take : Cal P w K mg base 1 "_law_take" sp__law_take []) : Cal P w K mg base 3 "_law_walk" sp__law_walk [] :=
  cal_at (x := "_law_walk") (st := s__law_walk) (N := N__law_walk) (ps := ["_law_bag_here", "_law_near_here", "_law_place", "_law_many"]) X G c 8 8 rfl rfl sc__law_walk (fun _ _ _ _ _ _ us hl => match us, hl with | [_, _, _, _], _ => rfl) (len_B (by intro ts Φ h; first | (obtain ⟨rfl, _⟩ := h; rfl) | (obtain ⟨_, rfl, _⟩ := h; rfl) | (obtain ⟨_, _, rfl, _⟩ := h; rfl) | (obtain ⟨_, _, _, rfl, _⟩ := h; rfl) | (obtain ⟨_, _, _, _, rfl, _⟩ := h; rfl) | (obtain ⟨_, _, _, _, _, rfl, _⟩ := h; rfl) | (obtain ⟨_, _, _, _, _, _, rfl, _⟩ := h; rfl))) (bd__law_walk B c__law_some c__law_take)
theorem at__law_trains (X : K.In h) (G : h.Ns mainGlobals mg) (c : He.SaysD faL fnL K) (B : Bl mg) (c__law_names : Cal P w K mg base 4 "_law_names" sp__law_names []) (c__law_near : Cal P w K mg base 1 "_law_near" sp__law_near []) (c__law_some : Cal P w K mg base 2 "_law_some" sp__law_some []) (c__law_walk : Cal P w K mg base 3 "_law_walk" sp__law_walk []) (c__law_take : Cal P w K mg base 1 "_law_take" sp__law_take []) : Cal P w K mg base 5 "_law_trains" sp__law_trains [] :=
  cal_at (x := "_law_trains") (st := s__law_trains) (N := N__law_trains) (ps := ["_law_bag_here", "_law_line_here", "_law_many", "_law_stops"]) X G c 9 9 rfl rfl sc__law_trains (fun _ _ _ _ _ _ us hl => match us, hl with | [_, _, _, _], _ => rfl) (len_B (by intro ts Φ h; first | (obtain ⟨rfl, _⟩ := h; rfl) | (obtain ⟨_, rfl, _⟩ := h; rfl) | (obtain ⟨_, _, rfl, _⟩ := h; rfl) | (obtain ⟨_, _, _, rfl, _⟩ := h; rfl) | (obtain ⟨_, _, _, _, rfl, _⟩ := h; rfl) | (obtain ⟨_, _, _, _, _, rfl, _⟩ := h; rfl) | (obtain ⟨_, _, _, _, _, _, rfl, _⟩ := h; rfl))) (bd__law_trains B c__law_names c__law_near c__law_some c__law_walk c__law_take)
theorem at__law_counts (X : K.In h) (G : h.Ns mainGlobals mg) (c : He.SaysD faL fnL K) (B : Bl mg) : Cal P w K mg base 1 "_law_counts" sp__law_counts [] :=
  cal_at (x := "_law_counts") (st := s__law_counts) (N := N__law_counts) (ps := ["_law_trains_here"]) X G c 10 10 rfl rfl sc__law_counts (fun _ _ _ _ _ _ us hl => match us, hl with | [_], _ => rfl) (len_O (len_F (by intro ts Φ h; first | (obtain ⟨rfl, _⟩ := h; rfl) | (obtain ⟨_, rfl, _⟩ := h; rfl) | (obtain ⟨_, _, rfl, _⟩ := h; rfl) | (obtain ⟨_, _, _, rfl, _⟩ := h; rfl) | (obtain ⟨_, _, _, _, rfl, _⟩ := h; rfl) | (obtain ⟨_, _, _, _, _, rfl, _⟩ := h; rfl) | (obtain ⟨_, _, _, _, _, _, rfl, _⟩ := h; rfl))) (len_F (by intro ts Φ h; first | (obtain ⟨rfl, _⟩ := h; rfl) | (obtain ⟨_, rfl, _⟩ := h; rfl) | (obtain ⟨_, _, rfl, _⟩ := h; rfl) | (obtain ⟨_, _, _, rfl, _⟩ := h; rfl) | (obtain ⟨_, _, _, _, rfl, _⟩ := h; rfl) | (obtain ⟨_, _, _, _, _, rfl, _⟩ := h; rfl) | (obtain ⟨_, _, _, _, _, _, rfl, _⟩ := h; rfl)))) (bd__law_counts B)
theorem at__law_evened (X : K.In h) (G : h.Ns mainGlobals mg) (c : He.SaysD faL fnL K) (B : Bl mg) (c__law_near : Cal P w K mg base 1 "_law_near" sp__law_near []) (c__law_take : Cal P w K mg base 1 "_law_take" sp__law_take []) (c__law_counts : Cal P w K mg base 1 "_law_counts" sp__law_counts []) (c__law_some : Cal P w K mg base 2 "_law_some" sp__law_some []) : Cal P w K mg base 3 "_law_evened" sp__law_evened [] :=
  cal_at (x := "_law_evened") (st := s__law_evened) (N := N__law_evened) (ps := ["_law_bag_here", "_law_line_here", "_law_trains_here"]) X G c 11 11 rfl rfl sc__law_evened (fun _ _ _ _ _ _ us hl => match us, hl with | [_, _, _], _ => rfl) (len_B (by intro ts Φ h; first | (obtain ⟨rfl, _⟩ := h; rfl) | (obtain ⟨_, rfl, _⟩ := h; rfl) | (obtain ⟨_, _, rfl, _⟩ := h; rfl) | (obtain ⟨_, _, _, rfl, _⟩ := h; rfl) | (obtain ⟨_, _, _, _, rfl, _⟩ := h; rfl) | (obtain ⟨_, _, _, _, _, rfl, _⟩ := h; rfl) | (obtain ⟨_, _, _, _, _, _, rfl, _⟩ := h; rfl))) (bd__law_evened B c__law_near c__law_take c__law_counts c__law_some)
theorem at__law_staffs (X : K.In h) (G : h.Ns mainGlobals mg) (c : He.SaysD faL fnL K) (B : Bl mg) (c__law_counts : Cal P w K mg base 1 "_law_counts" sp__law_counts []) (c__law_some : Cal P w K mg base 2 "_law_some" sp__law_some []) (c__law_take : Cal P w K mg base 1 "_law_take" sp__law_take []) : Cal P w K mg base 3 "_law_staffs" sp__law_staffs [] :=
  cal_at (x := "_law_staffs") (st := s__law_staffs) (N := N__law_staffs) (ps := ["_law_bag_here", "_law_line_here", "_law_trains_here"]) X G c 12 12 rfl rfl sc__law_staffs (fun _ _ _ _ _ _ us hl => match us, hl with | [_, _, _], _ => rfl) (len_B (by intro ts Φ h; first | (obtain ⟨rfl, _⟩ := h; rfl) | (obtain ⟨_, rfl, _⟩ := h; rfl) | (obtain ⟨_, _, rfl, _⟩ := h; rfl) | (obtain ⟨_, _, _, rfl, _⟩ := h; rfl) | (obtain ⟨_, _, _, _, rfl, _⟩ := h; rfl) | (obtain ⟨_, _, _, _, _, rfl, _⟩ := h; rfl) | (obtain ⟨_, _, _, _, _, _, rfl, _⟩ := h; rfl))) (bd__law_staffs B c__law_counts c__law_some c__law_take)
theorem at__law_standing (X : K.In h) (G : h.Ns mainGlobals mg) (c : He.SaysD faL fnL K) (B : Bl mg) (c__law_trains : Cal P w K mg base 5 "_law_trains" sp__law_trains []) (c__law_evened : Cal P w K mg base 3 "_law_evened" sp__law_evened []) (c__law_staffs : Cal P w K mg base 3 "_law_staffs" sp__law_staffs []) (c__law_take : Cal P w K mg base 1 "_law_take" sp__law_take []) : Cal P w K mg base 6 "_law_standing" sp__law_standing [] :=
  cal_at (x := "_law_standing") (st := s__law_standing) (N := N__law_standing) (ps := ["_law_bag_here", "_law_line_here", "_law_many", "_law_stops"]) X G c 13 13 rfl rfl sc__law_standing (fun _ _ _ _ _ _ us hl => match us, hl with | [_, _, _, _], _ => rfl) (len_B (by intro ts Φ h; first | (obtain ⟨rfl, _⟩ := h; rfl) | (obtain ⟨_, rfl, _⟩ := h; rfl) | (obtain ⟨_, _, rfl, _⟩ := h; rfl) | (obtain ⟨_, _, _, rfl, _⟩ := h; rfl) | (obtain ⟨_, _, _, _, rfl, _⟩ := h; rfl) | (obtain ⟨_, _, _, _, _, rfl, _⟩ := h; rfl) | (obtain ⟨_, _, _, _, _, _, rfl, _⟩ := h; rfl))) (bd__law_standing B c__law_trains c__law_evened c__law_staffs c__law_take)
theorem at__law_small (X : K.In h) (G : h.Ns mainGlobals mg) (c : He.SaysD faL fnL K) (B : Bl mg) (c__law_some : Cal P w K mg base 2 "_law_some" sp__law_some []) (c__law_line : Cal P w K mg base 5 "_law_line" sp__law_line []) (c__law_standing : Cal P w K mg base 6 "_law_standing" sp__law_standing []) : Cal P w K mg base 7 "_law_small" sp__law_small [] :=
  cal_at (x := "_law_small") (st := s__law_small) (N := N__law_small) (ps := ["_law_bag_here"]) X G c 14 14 rfl rfl sc__law_small (fun _ _ _ _ _ _ us hl => match us, hl with | [_], _ => rfl) (len_B (by intro ts Φ h; first | (obtain ⟨rfl, _⟩ := h; rfl) | (obtain ⟨_, rfl, _⟩ := h; rfl) | (obtain ⟨_, _, rfl, _⟩ := h; rfl) | (obtain ⟨_, _, _, rfl, _⟩ := h; rfl) | (obtain ⟨_, _, _, _, rfl, _⟩ := h; rfl) | (obtain ⟨_, _, _, _, _, rfl, _⟩ := h; rfl) | (obtain ⟨_, _, _, _, _, _, rfl, _⟩ := h; rfl))) (bd__law_small B c__law_some c__law_line c__law_standing)
theorem at__law_middle (X : K.In h) (G : h.Ns mainGlobals mg) (c : He.SaysD faL fnL K) (B : Bl mg) (c__law_some : Cal P w K mg base 2 "_law_some" sp__law_some []) (c__law_line : Cal P w K mg base 5 "_law_line" sp__law_line []) (c__law_standing : Cal P w K mg base 6 "_law_standing" sp__law_standing []) : Cal P w K mg base 7 "_law_middle" sp__law_middle [] :=
  cal_at (x := "_law_middle") (st := s__law_middle) (N := N__law_middle) (ps := ["_law_bag_here"]) X G c 15 15 rfl rfl sc__law_middle (fun _ _ _ _ _ _ us hl => match us, hl with | [_], _ => rfl) (len_B (by intro ts Φ h; first | (obtain ⟨rfl, _⟩ := h; rfl) | (obtain ⟨_, rfl, _⟩ := h; rfl) | (obtain ⟨_, _, rfl, _⟩ := h; rfl) | (obtain ⟨_, _, _, rfl, _⟩ := h; rfl) | (obtain ⟨_, _, _, _, rfl, _⟩ := h; rfl) | (obtain ⟨_, _, _, _, _, rfl, _⟩ := h; rfl) | (obtain ⟨_, _, _, _, _, _, rfl, _⟩ := h; rfl))) (bd__law_middle B c__law_some c__law_line c__law_standing)
theorem at__law_wider (X : K.In h) (G : h.Ns mainGlobals mg) (c : He.SaysD faL fnL K) (B : Bl mg) (c__law_take : Cal P w K mg base 1 "_law_take" sp__law_take []) (c__law_some : Cal P w K mg base 2 "_law_some" sp__law_some []) : Cal P w K mg base 3 "_law_wider" sp__law_wider [] :=
  cal_at (x := "_law_wider") (st := s__law_wider) (N := N__law_wider) (ps := ["_law_bag_here", "_law_line_here", "_law_standing_here"]) X G c 16 16 rfl rfl sc__law_wider (fun _ _ _ _ _ _ us hl => match us, hl with | [_, _, _], _ => rfl) (len_B (by intro ts Φ h; first | (obtain ⟨rfl, _⟩ := h; rfl) | (obtain ⟨_, rfl, _⟩ := h; rfl) | (obtain ⟨_, _, rfl, _⟩ := h; rfl) | (obtain ⟨_, _, _, rfl, _⟩ := h; rfl) | (obtain ⟨_, _, _, _, rfl, _⟩ := h; rfl) | (obtain ⟨_, _, _, _, _, rfl, _⟩ := h; rfl) | (obtain ⟨_, _, _, _, _, _, rfl, _⟩ := h; rfl))) (bd__law_wider B c__law_take c__law_some)
theorem at_train_of (X : K.In h) (G : h.Ns mainGlobals mg) (c : He.SaysD faL fnL K) (B : Bl mg) : Cal P w K mg base 1 "train_of" sp_train_of [] :=
  cal_at (x := "train_of") (st := s_train_of) (N := N_train_of) (ps := ["standing", "name"]) X G c 17 17 rfl rfl sc_train_of (fun _ _ _ _ _ _ us hl => match us, hl with | [_, _], _ => rfl) (len_F (by intro ts Φ h; first | (obtain ⟨rfl, _⟩ := h; rfl) | (obtain ⟨_, rfl, _⟩ := h; rfl) | (obtain ⟨_, _, rfl, _⟩ := h; rfl) | (obtain ⟨_, _, _, rfl, _⟩ := h; rfl) | (obtain ⟨_, _, _, _, rfl, _⟩ := h; rfl) | (obtain ⟨_, _, _, _, _, rfl, _⟩ := h; rfl) | (obtain ⟨_, _, _, _, _, _, rfl, _⟩ := h; rfl))) (bd_train_of B)
theorem at_rest_of (X : K.In h) (G : h.Ns mainGlobals mg) (c : He.SaysD faL fnL K) (B : Bl mg) (c_train_of : Cal P w K mg base 1 "train_of" sp_train_of []) : Cal P w K mg base 2 "rest_of" sp_rest_of [] :=
  cal_at (x := "rest_of") (st := s_rest_of) (N := N_rest_of) (ps := ["standing", "name"]) X G c 18 18 rfl rfl sc_rest_of (fun _ _ _ _ _ _ us hl => match us, hl with | [_, _], _ => rfl) (len_F (by intro ts Φ h; first | (obtain ⟨rfl, _⟩ := h; rfl) | (obtain ⟨_, rfl, _⟩ := h; rfl) | (obtain ⟨_, _, rfl, _⟩ := h; rfl) | (obtain ⟨_, _, _, rfl, _⟩ := h; rfl) | (obtain ⟨_, _, _, _, rfl, _⟩ := h; rfl) | (obtain ⟨_, _, _, _, _, rfl, _⟩ := h; rfl) | (obtain ⟨_, _, _, _, _, _, rfl, _⟩ := h; rfl))) (bd_rest_of B c_train_of)
theorem at_key_of (X : K.In h) (G : h.Ns mainGlobals mg) (c : He.SaysD faL fnL K) (B : Bl mg) : Cal P w K mg base 1 "key_of" sp_key_of [] :=
  cal_at (x := "key_of") (st := s_key_of) (N := N_key_of) (ps := ["one", "other"]) X G c 19 19 rfl rfl sc_key_of (fun _ _ _ _ _ _ us hl => match us, hl with | [_, _], _ => rfl) (len_F (by intro ts Φ h; first | (obtain ⟨rfl, _⟩ := h; rfl) | (obtain ⟨_, rfl, _⟩ := h; rfl) | (obtain ⟨_, _, rfl, _⟩ := h; rfl) | (obtain ⟨_, _, _, rfl, _⟩ := h; rfl) | (obtain ⟨_, _, _, _, rfl, _⟩ := h; rfl) | (obtain ⟨_, _, _, _, _, rfl, _⟩ := h; rfl) | (obtain ⟨_, _, _, _, _, _, rfl, _⟩ := h; rfl))) (bd_key_of B)
theorem at_staff_of (X : K.In h) (G : h.Ns mainGlobals mg) (c : He.SaysD faL fnL K) (B : Bl mg) : Cal P w K mg base 1 "staff_of" sp_staff_of [] :=
  cal_at (x := "staff_of") (st := s_staff_of) (N := N_staff_of) (ps := ["standing", "key"]) X G c 20 20 rfl rfl sc_staff_of (fun _ _ _ _ _ _ us hl => match us, hl with | [_, _], _ => rfl) (len_F (by intro ts Φ h; first | (obtain ⟨rfl, _⟩ := h; rfl) | (obtain ⟨_, rfl, _⟩ := h; rfl) | (obtain ⟨_, _, rfl, _⟩ := h; rfl) | (obtain ⟨_, _, _, rfl, _⟩ := h; rfl) | (obtain ⟨_, _, _, _, rfl, _⟩ := h; rfl) | (obtain ⟨_, _, _, _, _, rfl, _⟩ := h; rfl) | (obtain ⟨_, _, _, _, _, _, rfl, _⟩ := h; rfl))) (bd_staff_of B)
theorem at_section (X : K.In h) (G : h.Ns mainGlobals mg) (c : He.SaysD faL fnL K) (B : Bl mg) (c_key_of : Cal P w K mg base 1 "key_of" sp_key_of []) : Cal P w K mg base 2 "section" sp_section [] :=
  cal_at (x := "section") (st := s_section) (N := N_section) (ps := ["line", "one", "other"]) X G c 21 21 rfl rfl sc_section (fun _ _ _ _ _ _ us hl => match us, hl with | [_, _, _], _ => rfl) (len_F (by intro ts Φ h; first | (obtain ⟨rfl, _⟩ := h; rfl) | (obtain ⟨_, rfl, _⟩ := h; rfl) | (obtain ⟨_, _, rfl, _⟩ := h; rfl) | (obtain ⟨_, _, _, rfl, _⟩ := h; rfl) | (obtain ⟨_, _, _, _, rfl, _⟩ := h; rfl) | (obtain ⟨_, _, _, _, _, rfl, _⟩ := h; rfl) | (obtain ⟨_, _, _, _, _, _, rfl, _⟩ := h; rfl))) (bd_section B c_key_of)
theorem at_sort_of (X : K.In h) (G : h.Ns mainGlobals mg) (c : He.SaysD faL fnL K) (B : Bl mg) (c_section : Cal P w K mg base 2 "section" sp_section []) : Cal P w K mg base 3 "sort_of" sp_sort_of [] :=
  cal_at (x := "sort_of") (st := s_sort_of) (N := N_sort_of) (ps := ["line", "key"]) X G c 22 22 rfl rfl sc_sort_of (fun _ _ _ _ _ _ us hl => match us, hl with | [_, _], _ => rfl) (len_F (by intro ts Φ h; first | (obtain ⟨rfl, _⟩ := h; rfl) | (obtain ⟨_, rfl, _⟩ := h; rfl) | (obtain ⟨_, _, rfl, _⟩ := h; rfl) | (obtain ⟨_, _, _, rfl, _⟩ := h; rfl) | (obtain ⟨_, _, _, _, rfl, _⟩ := h; rfl) | (obtain ⟨_, _, _, _, _, rfl, _⟩ := h; rfl) | (obtain ⟨_, _, _, _, _, _, rfl, _⟩ := h; rfl))) (bd_sort_of B c_section)
theorem at_lies_open (X : K.In h) (G : h.Ns mainGlobals mg) (c : He.SaysD faL fnL K) (B : Bl mg) (c_key_of : Cal P w K mg base 1 "key_of" sp_key_of []) (c_staff_of : Cal P w K mg base 1 "staff_of" sp_staff_of []) (c_sort_of : Cal P w K mg base 3 "sort_of" sp_sort_of []) : Cal P w K mg base 4 "lies_open" sp_lies_open [] :=
  cal_at (x := "lies_open") (st := s_lies_open) (N := N_lies_open) (ps := ["line", "standing", "passed", "start", "end"]) X G c 23 23 rfl rfl sc_lies_open (fun _ _ _ _ _ _ us hl => match us, hl with | [_, _, _, _, _], _ => rfl) (len_F (by intro ts Φ h; first | (obtain ⟨rfl, _⟩ := h; rfl) | (obtain ⟨_, rfl, _⟩ := h; rfl) | (obtain ⟨_, _, rfl, _⟩ := h; rfl) | (obtain ⟨_, _, _, rfl, _⟩ := h; rfl) | (obtain ⟨_, _, _, _, rfl, _⟩ := h; rfl) | (obtain ⟨_, _, _, _, _, rfl, _⟩ := h; rfl) | (obtain ⟨_, _, _, _, _, _, rfl, _⟩ := h; rfl))) (bd_lies_open B c_key_of c_staff_of c_sort_of)
theorem at_gone_on (X : K.In h) (G : h.Ns mainGlobals mg) (c : He.SaysD faL fnL K) (B : Bl mg) (c_lies_open : Cal P w K mg base 4 "lies_open" sp_lies_open []) (c_key_of : Cal P w K mg base 1 "key_of" sp_key_of []) : Cal P w K mg base 5 "gone_on" sp_gone_on [] :=
  cal_at (x := "gone_on") (st := s_gone_on) (N := N_gone_on) (ps := ["line", "standing", "part", "passed", "train"]) X G c 24 24 rfl rfl sc_gone_on (fun _ _ _ _ _ _ us hl => match us, hl with | [_, _, _, _, _], _ => rfl) (len_F (by intro ts Φ h; first | (obtain ⟨rfl, _⟩ := h; rfl) | (obtain ⟨_, rfl, _⟩ := h; rfl) | (obtain ⟨_, _, rfl, _⟩ := h; rfl) | (obtain ⟨_, _, _, rfl, _⟩ := h; rfl) | (obtain ⟨_, _, _, _, rfl, _⟩ := h; rfl) | (obtain ⟨_, _, _, _, _, rfl, _⟩ := h; rfl) | (obtain ⟨_, _, _, _, _, _, rfl, _⟩ := h; rfl))) (bd_gone_on B c_lies_open c_key_of)
theorem at_run_of (X : K.In h) (G : h.Ns mainGlobals mg) (c : He.SaysD faL fnL K) (B : Bl mg) (c_gone_on : Cal P w K mg base 5 "gone_on" sp_gone_on []) : Cal P w K mg base 6 "run_of" sp_run_of [] :=
  cal_at (x := "run_of") (st := s_run_of) (N := N_run_of) (ps := ["line", "standing", "part"]) X G c 25 25 rfl rfl sc_run_of (fun _ _ _ _ _ _ us hl => match us, hl with | [_, _, _], _ => rfl) (len_F (by intro ts Φ h; first | (obtain ⟨rfl, _⟩ := h; rfl) | (obtain ⟨_, rfl, _⟩ := h; rfl) | (obtain ⟨_, _, rfl, _⟩ := h; rfl) | (obtain ⟨_, _, _, rfl, _⟩ := h; rfl) | (obtain ⟨_, _, _, _, rfl, _⟩ := h; rfl) | (obtain ⟨_, _, _, _, _, rfl, _⟩ := h; rfl) | (obtain ⟨_, _, _, _, _, _, rfl, _⟩ := h; rfl))) (bd_run_of B c_gone_on)
theorem at_open_run (X : K.In h) (G : h.Ns mainGlobals mg) (c : He.SaysD faL fnL K) (B : Bl mg) (c_run_of : Cal P w K mg base 6 "run_of" sp_run_of []) : Cal P w K mg base 7 "open_run" sp_open_run [] :=
  cal_at (x := "open_run") (st := s_open_run) (N := N_open_run) (ps := ["line", "standing"]) X G c 26 26 rfl rfl sc_open_run (fun _ _ _ _ _ _ us hl => match us, hl with | [_, _], _ => rfl) (len_F (by intro ts Φ h; first | (obtain ⟨rfl, _⟩ := h; rfl) | (obtain ⟨_, rfl, _⟩ := h; rfl) | (obtain ⟨_, _, rfl, _⟩ := h; rfl) | (obtain ⟨_, _, _, rfl, _⟩ := h; rfl) | (obtain ⟨_, _, _, _, rfl, _⟩ := h; rfl) | (obtain ⟨_, _, _, _, _, rfl, _⟩ := h; rfl) | (obtain ⟨_, _, _, _, _, _, rfl, _⟩ := h; rfl))) (bd_open_run B c_run_of)
theorem at_gets_home (X : K.In h) (G : h.Ns mainGlobals mg) (c : He.SaysD faL fnL K) (B : Bl mg) (c_rest_of : Cal P w K mg base 2 "rest_of" sp_rest_of []) (c_open_run : Cal P w K mg base 7 "open_run" sp_open_run []) : Cal P w K mg base 8 "gets_home" sp_gets_home [] :=
  cal_at (x := "gets_home") (st := s_gets_home) (N := N_gets_home) (ps := ["line", "standing", "name"]) X G c 27 27 rfl rfl sc_gets_home (fun _ _ _ _ _ _ us hl => match us, hl with | [_, _, _], _ => rfl) (len_F (by intro ts Φ h; first | (obtain ⟨rfl, _⟩ := h; rfl) | (obtain ⟨_, rfl, _⟩ := h; rfl) | (obtain ⟨_, _, rfl, _⟩ := h; rfl) | (obtain ⟨_, _, _, rfl, _⟩ := h; rfl) | (obtain ⟨_, _, _, _, rfl, _⟩ := h; rfl) | (obtain ⟨_, _, _, _, _, rfl, _⟩ := h; rfl) | (obtain ⟨_, _, _, _, _, _, rfl, _⟩ := h; rfl))) (bd_gets_home B c_rest_of c_open_run)
theorem at__law_with_train (X : K.In h) (G : h.Ns mainGlobals mg) (c : He.SaysD faL fnL K) (B : Bl mg) : Cal P w K mg base 1 "_law_with_train" sp__law_with_train [] :=
  cal_at (x := "_law_with_train") (st := s__law_with_train) (N := N__law_with_train) (ps := ["_law_standing_here", "_law_train"]) X G c 28 28 rfl rfl sc__law_with_train (fun _ _ _ _ _ _ us hl => match us, hl with | [_, _], _ => rfl) (len_F (by intro ts Φ h; first | (obtain ⟨rfl, _⟩ := h; rfl) | (obtain ⟨_, rfl, _⟩ := h; rfl) | (obtain ⟨_, _, rfl, _⟩ := h; rfl) | (obtain ⟨_, _, _, rfl, _⟩ := h; rfl) | (obtain ⟨_, _, _, _, rfl, _⟩ := h; rfl) | (obtain ⟨_, _, _, _, _, rfl, _⟩ := h; rfl) | (obtain ⟨_, _, _, _, _, _, rfl, _⟩ := h; rfl))) (bd__law_with_train B)
theorem at__law_sorts (X : K.In h) (G : h.Ns mainGlobals mg) (c : He.SaysD faL fnL K) (B : Bl mg) : Cal P w K mg base 1 "_law_sorts" sp__law_sorts [] :=
  cal_at (x := "_law_sorts") (st := s__law_sorts) (N := N__law_sorts) (ps := ["_law_line_here"]) X G c 29 29 rfl rfl sc__law_sorts (fun _ _ _ _ _ _ us hl => match us, hl with | [_], _ => rfl) (len_F (by intro ts Φ h; first | (obtain ⟨rfl, _⟩ := h; rfl) | (obtain ⟨_, rfl, _⟩ := h; rfl) | (obtain ⟨_, _, rfl, _⟩ := h; rfl) | (obtain ⟨_, _, _, rfl, _⟩ := h; rfl) | (obtain ⟨_, _, _, _, rfl, _⟩ := h; rfl) | (obtain ⟨_, _, _, _, _, rfl, _⟩ := h; rfl) | (obtain ⟨_, _, _, _, _, _, rfl, _⟩ := h; rfl))) (bd__law_sorts B)
theorem at__law_key (X : K.In h) (G : h.Ns mainGlobals mg) (c : He.SaysD faL fnL K) (B : Bl mg) : Cal P w K mg base 1 "_law_key" sp__law_key [] :=
  cal_at (x := "_law_key") (st := s__law_key) (N := N__law_key) (ps := ["_law_one", "_law_other"]) X G c 30 30 rfl rfl sc__law_key (fun _ _ _ _ _ _ us hl => match us, hl with | [_, _], _ => rfl) (len_F (by intro ts Φ h; first | (obtain ⟨rfl, _⟩ := h; rfl) | (obtain ⟨_, rfl, _⟩ := h; rfl) | (obtain ⟨_, _, rfl, _⟩ := h; rfl) | (obtain ⟨_, _, _, rfl, _⟩ := h; rfl) | (obtain ⟨_, _, _, _, rfl, _⟩ := h; rfl) | (obtain ⟨_, _, _, _, _, rfl, _⟩ := h; rfl) | (obtain ⟨_, _, _, _, _, _, rfl, _⟩ := h; rfl))) (bd__law_key B)
theorem at__law_open_run (X : K.In h) (G : h.Ns mainGlobals mg) (c : He.SaysD faL fnL K) (B : Bl mg) (c__law_sorts : Cal P w K mg base 1 "_law_sorts" sp__law_sorts []) (c__law_mixed : Cal P w K mg base 2 "_law_mixed" sp__law_mixed []) (c__law_key : Cal P w K mg base 1 "_law_key" sp__law_key []) : Cal P w K mg base 3 "_law_open_run" sp__law_open_run [] :=
  cal_at (x := "_law_open_run") (st := s__law_open_run) (N := N__law_open_run) (ps := ["_law_bag_here", "_law_line_here", "_law_standing_here", "_law_part"]) X G c 31 31 rfl rfl sc__law_open_run (fun _ _ _ _ _ _ us hl => match us, hl with | [_, _, _, _], _ => rfl) (len_B (by intro ts Φ h; first | (obtain ⟨rfl, _⟩ := h; rfl) | (obtain ⟨_, rfl, _⟩ := h; rfl) | (obtain ⟨_, _, rfl, _⟩ := h; rfl) | (obtain ⟨_, _, _, rfl, _⟩ := h; rfl) | (obtain ⟨_, _, _, _, rfl, _⟩ := h; rfl) | (obtain ⟨_, _, _, _, _, rfl, _⟩ := h; rfl) | (obtain ⟨_, _, _, _, _, _, rfl, _⟩ := h; rfl))) (bd__law_open_run B c__law_sorts c__law_mixed c__law_key)
theorem at_place_of (X : K.In h) (G : h.Ns mainGlobals mg) (c : He.SaysD faL fnL K) (B : Bl mg) (c_train_of : Cal P w K mg base 1 "train_of" sp_train_of []) : Cal P w K mg base 2 "place_of" sp_place_of [] :=
  cal_at (x := "place_of") (st := s_place_of) (N := N_place_of) (ps := ["standing", "name"]) X G c 32 32 rfl rfl sc_place_of (fun _ _ _ _ _ _ us hl => match us, hl with | [_, _], _ => rfl) (len_F (by intro ts Φ h; first | (obtain ⟨rfl, _⟩ := h; rfl) | (obtain ⟨_, rfl, _⟩ := h; rfl) | (obtain ⟨_, _, rfl, _⟩ := h; rfl) | (obtain ⟨_, _, _, rfl, _⟩ := h; rfl) | (obtain ⟨_, _, _, _, rfl, _⟩ := h; rfl) | (obtain ⟨_, _, _, _, _, rfl, _⟩ := h; rfl) | (obtain ⟨_, _, _, _, _, _, rfl, _⟩ := h; rfl))) (bd_place_of B c_train_of)
theorem at_passes_of (X : K.In h) (G : h.Ns mainGlobals mg) (c : He.SaysD faL fnL K) (B : Bl mg) (c_train_of : Cal P w K mg base 1 "train_of" sp_train_of []) : Cal P w K mg base 2 "passes_of" sp_passes_of [] :=
  cal_at (x := "passes_of") (st := s_passes_of) (N := N_passes_of) (ps := ["standing", "name"]) X G c 33 33 rfl rfl sc_passes_of (fun _ _ _ _ _ _ us hl => match us, hl with | [_, _], _ => rfl) (len_F (by intro ts Φ h; first | (obtain ⟨rfl, _⟩ := h; rfl) | (obtain ⟨_, rfl, _⟩ := h; rfl) | (obtain ⟨_, _, rfl, _⟩ := h; rfl) | (obtain ⟨_, _, _, rfl, _⟩ := h; rfl) | (obtain ⟨_, _, _, _, rfl, _⟩ := h; rfl) | (obtain ⟨_, _, _, _, _, rfl, _⟩ := h; rfl) | (obtain ⟨_, _, _, _, _, _, rfl, _⟩ := h; rfl))) (bd_passes_of B c_train_of)
theorem at_keys_of (X : K.In h) (G : h.Ns mainGlobals mg) (c : He.SaysD faL fnL K) (B : Bl mg) : Cal P w K mg base 1 "keys_of" sp_keys_of [] :=
  cal_at (x := "keys_of") (st := s_keys_of) (N := N_keys_of) (ps := ["line"]) X G c 34 34 rfl rfl sc_keys_of (fun _ _ _ _ _ _ us hl => match us, hl with | [_], _ => rfl) (len_F (by intro ts Φ h; first | (obtain ⟨rfl, _⟩ := h; rfl) | (obtain ⟨_, rfl, _⟩ := h; rfl) | (obtain ⟨_, _, rfl, _⟩ := h; rfl) | (obtain ⟨_, _, _, rfl, _⟩ := h; rfl) | (obtain ⟨_, _, _, _, rfl, _⟩ := h; rfl) | (obtain ⟨_, _, _, _, _, rfl, _⟩ := h; rfl) | (obtain ⟨_, _, _, _, _, _, rfl, _⟩ := h; rfl))) (bd_keys_of B)
theorem at_neighbours (X : K.In h) (G : h.Ns mainGlobals mg) (c : He.SaysD faL fnL K) (B : Bl mg) (c_keys_of : Cal P w K mg base 1 "keys_of" sp_keys_of []) : Cal P w K mg base 2 "neighbours" sp_neighbours [] :=
  cal_at (x := "neighbours") (st := s_neighbours) (N := N_neighbours) (ps := ["line", "station"]) X G c 35 35 rfl rfl sc_neighbours (fun _ _ _ _ _ _ us hl => match us, hl with | [_, _], _ => rfl) (len_F (by intro ts Φ h; first | (obtain ⟨rfl, _⟩ := h; rfl) | (obtain ⟨_, rfl, _⟩ := h; rfl) | (obtain ⟨_, _, rfl, _⟩ := h; rfl) | (obtain ⟨_, _, _, rfl, _⟩ := h; rfl) | (obtain ⟨_, _, _, _, rfl, _⟩ := h; rfl) | (obtain ⟨_, _, _, _, _, rfl, _⟩ := h; rfl) | (obtain ⟨_, _, _, _, _, _, rfl, _⟩ := h; rfl))) (bd_neighbours B c_keys_of)
theorem at_came_from (X : K.In h) (G : h.Ns mainGlobals mg) (c : He.SaysD faL fnL K) (B : Bl mg) (c_neighbours : Cal P w K mg base 2 "neighbours" sp_neighbours []) : Cal P w K mg base 3 "came_from" sp_came_from [] :=
  cal_at (x := "came_from") (st := s_came_from) (N := N_came_from) (ps := ["line", "one"]) X G c 36 36 rfl rfl sc_came_from (fun _ _ _ _ _ _ us hl => match us, hl with | [_, _], _ => rfl) (len_F (by intro ts Φ h; first | (obtain ⟨rfl, _⟩ := h; rfl) | (obtain ⟨_, rfl, _⟩ := h; rfl) | (obtain ⟨_, _, rfl, _⟩ := h; rfl) | (obtain ⟨_, _, _, rfl, _⟩ := h; rfl) | (obtain ⟨_, _, _, _, rfl, _⟩ := h; rfl) | (obtain ⟨_, _, _, _, _, rfl, _⟩ := h; rfl) | (obtain ⟨_, _, _, _, _, _, rfl, _⟩ := h; rfl))) (bd_came_from B c_neighbours)
theorem at_way (X : K.In h) (G : h.Ns mainGlobals mg) (c : He.SaysD faL fnL K) (B : Bl mg) (c_came_from : Cal P w K mg base 3 "came_from" sp_came_from []) : Cal P w K mg base 4 "way" sp_way [] :=
  cal_at (x := "way") (st := s_way) (N := N_way) (ps := ["line", "one", "other"]) X G c 37 37 rfl rfl sc_way (fun _ _ _ _ _ _ us hl => match us, hl with | [_, _, _], _ => rfl) (len_F (by intro ts Φ h; first | (obtain ⟨rfl, _⟩ := h; rfl) | (obtain ⟨_, rfl, _⟩ := h; rfl) | (obtain ⟨_, _, rfl, _⟩ := h; rfl) | (obtain ⟨_, _, _, rfl, _⟩ := h; rfl) | (obtain ⟨_, _, _, _, rfl, _⟩ := h; rfl) | (obtain ⟨_, _, _, _, _, rfl, _⟩ := h; rfl) | (obtain ⟨_, _, _, _, _, _, rfl, _⟩ := h; rfl))) (bd_way B c_came_from)
theorem at_is_far (X : K.In h) (G : h.Ns mainGlobals mg) (c : He.SaysD faL fnL K) (B : Bl mg) (c_staff_of : Cal P w K mg base 1 "staff_of" sp_staff_of []) (c_way : Cal P w K mg base 4 "way" sp_way []) : Cal P w K mg base 5 "is_far" sp_is_far [] :=
  cal_at (x := "is_far") (st := s_is_far) (N := N_is_far) (ps := ["line", "standing", "place", "key"]) X G c 38 38 rfl rfl sc_is_far (fun _ _ _ _ _ _ us hl => match us, hl with | [_, _, _, _], _ => rfl) (len_F (by intro ts Φ h; first | (obtain ⟨rfl, _⟩ := h; rfl) | (obtain ⟨_, rfl, _⟩ := h; rfl) | (obtain ⟨_, _, rfl, _⟩ := h; rfl) | (obtain ⟨_, _, _, rfl, _⟩ := h; rfl) | (obtain ⟨_, _, _, _, rfl, _⟩ := h; rfl) | (obtain ⟨_, _, _, _, _, rfl, _⟩ := h; rfl) | (obtain ⟨_, _, _, _, _, _, rfl, _⟩ := h; rfl))) (bd_is_far B c_staff_of c_way)
theorem at_far (X : K.In h) (G : h.Ns mainGlobals mg) (c : He.SaysD faL fnL K) (B : Bl mg) (c_place_of : Cal P w K mg base 2 "place_of" sp_place_of []) (c_key_of : Cal P w K mg base 1 "key_of" sp_key_of []) (c_passes_of : Cal P w K mg base 2 "passes_of" sp_passes_of []) (c_is_far : Cal P w K mg base 5 "is_far" sp_is_far []) : Cal P w K mg base 6 "far" sp_far [] :=
  cal_at (x := "far") (st := s_far) (N := N_far) (ps := ["line", "standing", "name"]) X G c 39 39 rfl rfl sc_far (fun _ _ _ _ _ _ us hl => match us, hl with | [_, _, _], _ => rfl) (len_F (by intro ts Φ h; first | (obtain ⟨rfl, _⟩ := h; rfl) | (obtain ⟨_, rfl, _⟩ := h; rfl) | (obtain ⟨_, _, rfl, _⟩ := h; rfl) | (obtain ⟨_, _, _, rfl, _⟩ := h; rfl) | (obtain ⟨_, _, _, _, rfl, _⟩ := h; rfl) | (obtain ⟨_, _, _, _, _, rfl, _⟩ := h; rfl) | (obtain ⟨_, _, _, _, _, _, rfl, _⟩ := h; rfl))) (bd_far B c_place_of c_key_of c_passes_of c_is_far)
theorem at_names_of (X : K.In h) (G : h.Ns mainGlobals mg) (c : He.SaysD faL fnL K) (B : Bl mg) : Cal P w K mg base 1 "names_of" sp_names_of [] :=
  cal_at (x := "names_of") (st := s_names_of) (N := N_names_of) (ps := ["standing"]) X G c 40 40 rfl rfl sc_names_of (fun _ _ _ _ _ _ us hl => match us, hl with | [_], _ => rfl) (len_F (by intro ts Φ h; first | (obtain ⟨rfl, _⟩ := h; rfl) | (obtain ⟨_, rfl, _⟩ := h; rfl) | (obtain ⟨_, _, rfl, _⟩ := h; rfl) | (obtain ⟨_, _, _, rfl, _⟩ := h; rfl) | (obtain ⟨_, _, _, _, rfl, _⟩ := h; rfl) | (obtain ⟨_, _, _, _, _, rfl, _⟩ := h; rfl) | (obtain ⟨_, _, _, _, _, _, rfl, _⟩ := h; rfl))) (bd_names_of B)
theorem at_passes_left (X : K.In h) (G : h.Ns mainGlobals mg) (c : He.SaysD faL fnL K) (B : Bl mg) (c_names_of : Cal P w K mg base 1 "names_of" sp_names_of []) (c_passes_of : Cal P w K mg base 2 "passes_of" sp_passes_of []) : Cal P w K mg base 3 "passes_left" sp_passes_left [] :=
  cal_at (x := "passes_left") (st := s_passes_left) (N := N_passes_left) (ps := ["line", "standing"]) X G c 41 41 rfl rfl sc_passes_left (fun _ _ _ _ _ _ us hl => match us, hl with | [_, _], _ => rfl) (len_N (by intro ts Φ h; first | (obtain ⟨rfl, _⟩ := h; rfl) | (obtain ⟨_, rfl, _⟩ := h; rfl) | (obtain ⟨_, _, rfl, _⟩ := h; rfl) | (obtain ⟨_, _, _, rfl, _⟩ := h; rfl) | (obtain ⟨_, _, _, _, rfl, _⟩ := h; rfl) | (obtain ⟨_, _, _, _, _, rfl, _⟩ := h; rfl) | (obtain ⟨_, _, _, _, _, _, rfl, _⟩ := h; rfl))) (bd_passes_left B c_names_of c_passes_of)
theorem at_needed (X : K.In h) (G : h.Ns mainGlobals mg) (c : He.SaysD faL fnL K) (B : Bl mg) (c_key_of : Cal P w K mg base 1 "key_of" sp_key_of []) (c_passes_left : Cal P w K mg base 3 "passes_left" sp_passes_left []) : Cal P w K mg base 4 "needed" sp_needed [] :=
  cal_at (x := "needed") (st := s_needed) (N := N_needed) (ps := ["line", "standing"]) X G c 42 42 rfl rfl sc_needed (fun _ _ _ _ _ _ us hl => match us, hl with | [_, _], _ => rfl) (len_F (by intro ts Φ h; first | (obtain ⟨rfl, _⟩ := h; rfl) | (obtain ⟨_, rfl, _⟩ := h; rfl) | (obtain ⟨_, _, rfl, _⟩ := h; rfl) | (obtain ⟨_, _, _, rfl, _⟩ := h; rfl) | (obtain ⟨_, _, _, _, rfl, _⟩ := h; rfl) | (obtain ⟨_, _, _, _, _, rfl, _⟩ := h; rfl) | (obtain ⟨_, _, _, _, _, _, rfl, _⟩ := h; rfl))) (bd_needed B c_key_of c_passes_left)
theorem at_held (X : K.In h) (G : h.Ns mainGlobals mg) (c : He.SaysD faL fnL K) (B : Bl mg) (c_open_run : Cal P w K mg base 7 "open_run" sp_open_run []) (c_needed : Cal P w K mg base 4 "needed" sp_needed []) (c_sort_of : Cal P w K mg base 3 "sort_of" sp_sort_of []) : Cal P w K mg base 8 "held" sp_held [] :=
  cal_at (x := "held") (st := s_held) (N := N_held) (ps := ["line", "standing"]) X G c 43 43 rfl rfl sc_held (fun _ _ _ _ _ _ us hl => match us, hl with | [_, _], _ => rfl) (len_F (by intro ts Φ h; first | (obtain ⟨rfl, _⟩ := h; rfl) | (obtain ⟨_, rfl, _⟩ := h; rfl) | (obtain ⟨_, _, rfl, _⟩ := h; rfl) | (obtain ⟨_, _, _, rfl, _⟩ := h; rfl) | (obtain ⟨_, _, _, _, rfl, _⟩ := h; rfl) | (obtain ⟨_, _, _, _, _, rfl, _⟩ := h; rfl) | (obtain ⟨_, _, _, _, _, _, rfl, _⟩ := h; rfl))) (bd_held B c_open_run c_needed c_sort_of)
theorem at_bar (X : K.In h) (G : h.Ns mainGlobals mg) (c : He.SaysD faL fnL K) (B : Bl mg) (c_gets_home : Cal P w K mg base 8 "gets_home" sp_gets_home []) (c_held : Cal P w K mg base 8 "held" sp_held []) : Cal P w K mg base 9 "bar" sp_bar [] :=
  cal_at (x := "bar") (st := s_bar) (N := N_bar) (ps := ["line", "standing", "name"]) X G c 44 44 rfl rfl sc_bar (fun _ _ _ _ _ _ us hl => match us, hl with | [_, _, _], _ => rfl) (len_F (by intro ts Φ h; first | (obtain ⟨rfl, _⟩ := h; rfl) | (obtain ⟨_, rfl, _⟩ := h; rfl) | (obtain ⟨_, _, rfl, _⟩ := h; rfl) | (obtain ⟨_, _, _, rfl, _⟩ := h; rfl) | (obtain ⟨_, _, _, _, rfl, _⟩ := h; rfl) | (obtain ⟨_, _, _, _, _, rfl, _⟩ := h; rfl) | (obtain ⟨_, _, _, _, _, _, rfl, _⟩ := h; rfl))) (bd_bar B c_gets_home c_held)
theorem at__law_alike (X : K.In h) (G : h.Ns mainGlobals mg) (c : He.SaysD faL fnL K) (B : Bl mg) : CalG P w K mg base 1 "_law_alike" sp__law_alike :=
  calG_at (x := "_law_alike") (st := s__law_alike) (N := N__law_alike) (ps := ["_law_found", "_law_due"]) X G c 45 45 rfl rfl sc__law_alike (fun _ _ _ _ _ _ us hl => match us, hl with | [_, _], _ => rfl) (len_F (by intro ts Φ h; first | (obtain ⟨rfl, _⟩ := h; rfl) | (obtain ⟨_, rfl, _⟩ := h; rfl) | (obtain ⟨_, _, rfl, _⟩ := h; rfl) | (obtain ⟨_, _, _, rfl, _⟩ := h; rfl) | (obtain ⟨_, _, _, _, rfl, _⟩ := h; rfl) | (obtain ⟨_, _, _, _, _, rfl, _⟩ := h; rfl) | (obtain ⟨_, _, _, _, _, _, rfl, _⟩ := h; rfl))) (bd__law_alike B)
theorem at__law_new_name (X : K.In h) (G : h.Ns mainGlobals mg) (c : He.SaysD faL fnL K) (B : Bl mg) : Cal P w K mg base 1 "_law_new_name" sp__law_new_name [] :=
  cal_at (x := "_law_new_name") (st := s__law_new_name) (N := N__law_new_name) (ps := ["_law_standing_here"]) X G c 46 46 rfl rfl sc__law_new_name (fun _ _ _ _ _ _ us hl => match us, hl with | [_], _ => rfl) (len_F (by intro ts Φ h; first | (obtain ⟨rfl, _⟩ := h; rfl) | (obtain ⟨_, rfl, _⟩ := h; rfl) | (obtain ⟨_, _, rfl, _⟩ := h; rfl) | (obtain ⟨_, _, _, rfl, _⟩ := h; rfl) | (obtain ⟨_, _, _, _, rfl, _⟩ := h; rfl) | (obtain ⟨_, _, _, _, _, rfl, _⟩ := h; rfl) | (obtain ⟨_, _, _, _, _, _, rfl, _⟩ := h; rfl))) (bd__law_new_name B)
theorem facts (X : K.In h) (G : h.Ns mainGlobals mg) (c : He.SaysD faL fnL K) {f : Addr} (hf : mg "law" = some (.ref f)) :
    ∃ fd : FuncData, (∀ (s : Shared) (v : Value), BindsTo s fd ⟨[v], []⟩ [("_law_script", v)]) ∧ ∀ base : Heap, K.In base → base.Ns mainGlobals mg → RunG P w K mg base f fd ["_law_script"] (sp_law K) := by
  obtain ⟨f', fd, F, D⟩ := def_at (x := "law") (st := s_law) X G c 47 47 rfl rfl
  have e := hf.symm.trans F.mgf
  cases e
  have B := blt_at X G c
  refine ⟨fd, fun s v => D.bindsA (ps := ["_law_script"]) (fun _ _ _ _ _ _ us hl => match us, hl with | [_], _ => rfl) s [v] rfl, fun base _ _ => ?_⟩
  have c__law_bag := at__law_bag (P := P) (w := w) (base := base) X G c B
  have c__law_near := at__law_near (P := P) (w := w) (base := base) X G c B
  have c__law_take := at__law_take (P := P) (w := w) (base := base) X G c B
  have c__law_some := at__law_some (P := P) (w := w) (base := base) X G c B c__law_take
  have c__law_mixed := at__law_mixed (P := P) (w := w) (base := base) X G c B c__law_take
  have c__law_word := at__law_word (P := P) (w := w) (base := base) X G c B c__law_some c__law_take
  have c__law_names := at__law_names (P := P) (w := w) (base := base) X G c B c__law_take c__law_mixed c__law_word c__law_some
  have c__law_line := at__law_line (P := P) (w := w) (base := base) X G c B c__law_names c__law_take c__law_some
  have c__law_walk := at__law_walk (P := P) (w := w) (base := base) X G c B c__law_some c__law_take
  have c__law_trains := at__law_trains (P := P) (w := w) (base := base) X G c B c__law_names c__law_near c__law_some c__law_walk c__law_take
  have c__law_counts := at__law_counts (P := P) (w := w) (base := base) X G c B
  have c__law_evened := at__law_evened (P := P) (w := w) (base := base) X G c B c__law_near c__law_take c__law_counts c__law_some
  have c__law_staffs := at__law_staffs (P := P) (w := w) (base := base) X G c B c__law_counts c__law_some c__law_take
  have c__law_standing := at__law_standing (P := P) (w := w) (base := base) X G c B c__law_trains c__law_evened c__law_staffs c__law_take
  have c__law_small := at__law_small (P := P) (w := w) (base := base) X G c B c__law_some c__law_line c__law_standing
  have c__law_middle := at__law_middle (P := P) (w := w) (base := base) X G c B c__law_some c__law_line c__law_standing
  have c__law_wider := at__law_wider (P := P) (w := w) (base := base) X G c B c__law_take c__law_some
  have c_train_of := at_train_of (P := P) (w := w) (base := base) X G c B
  have c_rest_of := at_rest_of (P := P) (w := w) (base := base) X G c B c_train_of
  have c_key_of := at_key_of (P := P) (w := w) (base := base) X G c B
  have c_staff_of := at_staff_of (P := P) (w := w) (base := base) X G c B
  have c_section := at_section (P := P) (w := w) (base := base) X G c B c_key_of
  have c_sort_of := at_sort_of (P := P) (w := w) (base := base) X G c B c_section
  have c_lies_open := at_lies_open (P := P) (w := w) (base := base) X G c B c_key_of c_staff_of c_sort_of
  have c_gone_on := at_gone_on (P := P) (w := w) (base := base) X G c B c_lies_open c_key_of
  have c_run_of := at_run_of (P := P) (w := w) (base := base) X G c B c_gone_on
  have c_open_run := at_open_run (P := P) (w := w) (base := base) X G c B c_run_of
  have c_gets_home := at_gets_home (P := P) (w := w) (base := base) X G c B c_rest_of c_open_run
  have c__law_with_train := at__law_with_train (P := P) (w := w) (base := base) X G c B
  have c__law_sorts := at__law_sorts (P := P) (w := w) (base := base) X G c B
  have c__law_key := at__law_key (P := P) (w := w) (base := base) X G c B
  have c__law_open_run := at__law_open_run (P := P) (w := w) (base := base) X G c B c__law_sorts c__law_mixed c__law_key
  have c_place_of := at_place_of (P := P) (w := w) (base := base) X G c B c_train_of
  have c_passes_of := at_passes_of (P := P) (w := w) (base := base) X G c B c_train_of
  have c_keys_of := at_keys_of (P := P) (w := w) (base := base) X G c B
  have c_neighbours := at_neighbours (P := P) (w := w) (base := base) X G c B c_keys_of
  have c_came_from := at_came_from (P := P) (w := w) (base := base) X G c B c_neighbours
  have c_way := at_way (P := P) (w := w) (base := base) X G c B c_came_from
  have c_is_far := at_is_far (P := P) (w := w) (base := base) X G c B c_staff_of c_way
  have c_far := at_far (P := P) (w := w) (base := base) X G c B c_place_of c_key_of c_passes_of c_is_far
  have c_names_of := at_names_of (P := P) (w := w) (base := base) X G c B
  have c_passes_left := at_passes_left (P := P) (w := w) (base := base) X G c B c_names_of c_passes_of
  have c_needed := at_needed (P := P) (w := w) (base := base) X G c B c_key_of c_passes_left
  have c_held := at_held (P := P) (w := w) (base := base) X G c B c_open_run c_needed c_sort_of
  have c_bar := at_bar (P := P) (w := w) (base := base) X G c B c_gets_home c_held
  have c__law_alike := at__law_alike (P := P) (w := w) (base := base) X G c B
  have c__law_new_name := at__law_new_name (P := P) (w := w) (base := base) X G c B
  exact fun s H args us vs Q E e0 hb r hsp => runG F sc_law (fun vs H Q E ⟨v, e, _⟩ => by rw [e]; rfl) (bd_law B c__law_bag c__law_near c__law_some c__law_small c__law_middle c__law_wider c__law_walk c_gets_home c__law_with_train c__law_open_run c_far c_bar c__law_alike c__law_new_name) callerA [] s H args us vs Q E rfl ⟨rfl, by decide, by decide⟩ e0 hb r hsp
end
abbrev RR : PySem.W.OpenRow := PySem.W.OpenLaw.row PySem.Challenge.rw_staffhome_k44_whole_more_never_harms_one
abbrev hkL : PySem.W.Hook := He.hookD 4 faL fnL
def obL (s : PySem.W.SharedT) : He.AlD := He.obsDG 4 faL fnL (HandSHeadRun.getT s)
theorem obL_eq (s : PySem.W.SharedT) : obL s = hkL.obs s.abs := He.obsDG_eq (HandSHeadRun.getT_eq s)
theorem runL (w : World) : HandSHeadRun.RunEq RR (PySem.W.view RR.prog [56]) hkL obL 4000 looseL w := by
  intro os
  kernel_rfl
end Sx
set_option Elab.async false
open PySem PySem.W PySem.Calls PyProof.Rows
set_option maxRecDepth 100000 in
set_option maxHeartbeats 0 in
theorem PySem.Challenge.cw_staffhome_k44_whole_more_never_harms_one_holds : PySem.Challenge.rw_staffhome_k44_whole_more_never_harms_one.Holds := by
  w_on; o_law
  refine HandSHeadRun.head_any (r := OpenLaw.row PySem.Challenge.rw_staffhome_k44_whole_more_never_harms_one) (q := view (OpenLaw.row PySem.Challenge.rw_staffhome_k44_whole_more_never_harms_one).prog [56]) (H := Sx.hkL) (ob := Sx.obL) (M := 4000) (loose := Sx.looseL) (d := HandSHeadRun.topDef (OpenLaw.row PySem.Challenge.rw_staffhome_k44_whole_more_never_harms_one).prog 56) (kwd := []) Sx.obL_eq (by kernel_rfl) (fun s => by kernel_rfl) Sx.runL (by kernel_rfl) (by kernel_rfl) (by kernel_rfl) (by rfl) (by first | assumption | decide +kernel) (by decide +kernel) ⟨rfl, rfl, rfl, rfl, rfl, by decide +kernel⟩ ?hw ?hc
  case hw => w_witness2
  case hc =>
    refine Sx.walk_G (l := PySem.Challenge.rw_staffhome_k44_whole_more_never_harms_one) (n := 63) (x := "_law_script") rfl (by decide) (by kernel_rfl) ?F
    intro w mg f h Y G hm0
    obtain ⟨K, kin, c⟩ := Y
    have hm : mg ("law" : PySem.Str) = some (.ref f) := by
      have e : (HandSHeadRun.topDef (OpenLaw.row PySem.Challenge.rw_staffhome_k44_whole_more_never_harms_one).prog 56).name = ("law" : PySem.Str) := by kernel_rfl
      rw [← e]
      exact hm0
    obtain ⟨fd, bind, run⟩ := Sx.facts (P := (PySem.Challenge.rw_staffhome_k44_whole_more_never_harms_one).prog) (w := w) kin G c hm
    exact ⟨K, fd, Sx.sp_law K, kin, bind, fun H a ns hS => ⟨_, rfl, ⟨a, ns, rfl, hS⟩, fun _ => rfl⟩, run⟩
