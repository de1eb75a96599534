import PyProof.Rows.All
import Wide.All
import OpenK.AllK
import Wide.FinOn
import HandS.ForMost
import HandS.Zip
import HandS.Walk
import HandS.Evl
import HandS.TupAny
import HandS.Deep
import HandS.Wide
import HandS.Comp
import KE.DatumOrd
import KE.SortData
import HandS.NoneIn
import HandS.DictTup
import HandS.Conv
import HandS.DictComp
import HandS.IsInst
import HandS.More
import HandS.WordsDict
import HandS.Steps
import HandS.Codes
import HandS.Text
import PyProof.StrBlock2
import HandS.RevRange
import HandS.Style
import KE.GoesMore
import KE.KRevSl
import PySem.Challenge.RW_fewcolours_k83_whole_nothing_lost_on_the
set_option Elab.async false
set_option linter.all false
set_option maxRecDepth 100000
set_option maxHeartbeats 4000000
/-! FA: symbolic states over the hand layer: what the slots hold (SD), the cells that are owned (CD), a persistent heap behind them. -/
namespace FC
open PySem PySem.Spec PyProof.Rows L2 Evl

/-! ### data that stand in the heap -/
mutual
inductive Dq (B : Hp) : V → PyData → Prop
  | non : Dq B .non .none
  | bl (b : Bool) : Dq B (.bl b) (.bool b)
  | int (i : Int) : Dq B (.int i) (.int i)
  | str (x : Str) : Dq B (.str x) (.str x)
  | lst {a : Addr} {xs : List V} {ds : List PyData} : B a = some (.lst xs) → DqAll B xs ds → Dq B (.ref a) (.list ds)
  | tup {a : Addr} {xs : List V} {ds : List PyData} : B a = some (.tup xs) → DqAll B xs ds → Dq B (.ref a) (.tuple ds)
inductive DqAll (B : Hp) : List V → List PyData → Prop
  | nil : DqAll B [] []
  | cons {v : V} {vs : List V} {d : PyData} {ds : List PyData} : Dq B v d → DqAll B vs ds → DqAll B (v :: vs) (d :: ds)
end
mutual
theorem dp_mono {B B' : Hp} (e : Ex B B') : ∀ {v : V} {d : PyData}, Dq B v d → Dq B' v d
  | _, _, .non => .non
  | _, _, .bl b => .bl b
  | _, _, .int i => .int i
  | _, _, .str x => .str x
  | _, _, .lst h a => .lst (e _ _ h) (dpa_mono e a)
  | _, _, .tup h a => .tup (e _ _ h) (dpa_mono e a)
theorem dpa_mono {B B' : Hp} (e : Ex B B') : ∀ {vs : List V} {ds : List PyData}, DqAll B vs ds → DqAll B' vs ds
  | _, _, .nil => .nil
  | _, _, .cons h t => .cons (dp_mono e h) (dpa_mono e t)
end
mutual
theorem Dq.dp {K : PySem.W.Frag} {B : Hp} : ∀ {v : V} {d : PyData}, Dq B v d → Dp K B v d
  | _, _, .non => .non
  | _, _, .bl b => .bl b
  | _, _, .int i => .int i
  | _, _, .str x => .str x
  | _, _, .lst h a => .lst (SqL.of h) a.dp
  | _, _, .tup h a => .tup (SqT.of h) a.dp
theorem DqAll.dp {K : PySem.W.Frag} {B : Hp} : ∀ {vs : List V} {ds : List PyData}, DqAll B vs ds → DpAll K B vs ds
  | _, _, .nil => .nil
  | _, _, .cons h t => .cons h.dp t.dp
end

/-! ### symbolic values, cells, states -/
/-- what a slot, an item, a field holds: nothing known; data; the address of a cell -/
inductive SD where
  | un
  | da (d : PyData)
  | rf (l : Addr)
  | sl (l : Addr) (ns : List Int)
  | tp (es : List (PyData ⊕ Addr))
/-- what a cell holds -/
inductive CD where
  | ls (ds : List PyData)
  | lr (es : List SD)
  | dk (kvs : List (Key × PyData))
  | dt (kvs : List (List Key × PyData))
  | ins (C dx : Addr) (fs : List (Str × SD))
  | raw (o : HO)
  | lk (od : Obj) (ws : List (Key × V)) (kvs : List (Key × PyData))
abbrev M := List (Addr × CD)
abbrev keys (m : M) : List Addr := m.map (·.1)

section
variable (K : PySem.W.Frag) (B : Hp)
def TpOk (B : Hp) : List (PyData ⊕ Addr) → List V → Prop
  | [], [] => True
  | .inl d :: es, v :: vs => Dq B v d ∧ TpOk B es vs
  | .inr l :: es, v :: vs => v = .ref l ∧ TpOk B es vs
  | _, _ => False
def SdOk : SD → V → Prop
  | .un, _ => True
  | .da d, v => Dq B v d
  | .rf l, v => v = .ref l
  | .sl l ns, v => v = .ref l ∧ SqL K B l (ns.map V.int)
  | .tp es, v => ∃ p vs, v = .ref p ∧ B p = some (.tup vs) ∧ TpOk B es vs
def SdAll : List SD → List V → Prop
  | [], [] => True
  | a :: as, v :: vs => SdOk K B a v ∧ SdAll as vs
  | _, _ => False
def SlOk : SD → Option V → Prop
  | .un, _ => True
  | .da d, some v => Dq B v d
  | .rf l, some v => v = .ref l
  | .sl l ns, some v => v = .ref l ∧ SqL K B l (ns.map V.int)
  | .tp es, some v => ∃ p vs, v = .ref p ∧ B p = some (.tup vs) ∧ TpOk B es vs
  | _, none => False
def StOk : List SD → L2.St → Prop
  | [], [] => True
  | a :: as, v :: vs => SlOk K B a v ∧ StOk as vs
  | _, _ => False
def KvOk {κ : Type} : List (κ × PyData) → List (κ × V) → Prop
  | [], [] => True
  | a :: as, v :: vs => (a.1 = v.1 ∧ Dq B v.2 a.2) ∧ KvOk as vs
  | _, _ => False
def FsOk : List (Str × SD) → List (Str × V) → Prop
  | [], [] => True
  | a :: as, v :: vs => (a.1 = v.1 ∧ SdOk K B a.2 v.2) ∧ FsOk as vs
  | _, _ => False
def CdOk : CD → HO → Prop
  | .ls ds, .lst vs => DqAll B vs ds
  | .lr es, .lst vs => SdAll K B es vs
  | .dk kvs, .dK ws => KvOk B kvs ws
  | .dt kvs, .dT ws => KvOk B kvs ws
  | .ins C dx fs, .ins C' dx' ws => C = C' ∧ dx = dx' ∧ FsOk K B fs ws
  | .raw o, o' => o = o' ∧ ∀ xs, o ≠ .tup xs
  | .lk od ws kvs, .frz od' u => od = od' ∧ u = .dK ws ∧ KvOk B kvs ws
  | _, _ => False
end

section
variable {K : PySem.W.Frag} {B B' H H' : Hp}
theorem tp_mono (e : Ex B B') : ∀ {es : List (PyData ⊕ Addr)} {vs : List V}, TpOk B es vs → TpOk B' es vs
  | [], [], _ => True.intro
  | .inl _ :: _, _ :: _, h => ⟨dp_mono e h.1, tp_mono e h.2⟩
  | .inr _ :: _, _ :: _, h => ⟨h.1, tp_mono e h.2⟩
  | [], _ :: _, h => h.elim
  | .inl _ :: _, [], h => h.elim
  | .inr _ :: _, [], h => h.elim
theorem sd_mono (e : Ex B B') : ∀ {s : SD} {v : V}, SdOk K B s v → SdOk K B' s v
  | .un, _, h => h
  | .da _, _, h => dp_mono e h
  | .rf _, _, h => h
  | .sl _ _, _, h => ⟨h.1, ex_l e h.2⟩
  | .tp _, _, h => let ⟨p, vs, h1, h2, h3⟩ := h; ⟨p, vs, h1, e _ _ h2, tp_mono e h3⟩
theorem sda_mono (e : Ex B B') : ∀ {ss : List SD} {vs : List V}, SdAll K B ss vs → SdAll K B' ss vs
  | [], [], h => h
  | _ :: _, _ :: _, h => ⟨sd_mono e h.1, sda_mono e h.2⟩
  | [], _ :: _, h => h
  | _ :: _, [], h => h
theorem sl_mono (e : Ex B B') : ∀ {s : SD} {v : Option V}, SlOk K B s v → SlOk K B' s v
  | .un, _, h => by cases ‹Option V› <;> exact h
  | .da _, some _, h => dp_mono e h
  | .rf _, some _, h => h
  | .sl _ _, some _, h => ⟨h.1, ex_l e h.2⟩
  | .tp _, some _, h => let ⟨p, vs, h1, h2, h3⟩ := h; ⟨p, vs, h1, e _ _ h2, tp_mono e h3⟩
  | .tp _, none, h => h
  | .da _, none, h => h
  | .rf _, none, h => h
  | .sl _ _, none, h => h
theorem st_mono (e : Ex B B') : ∀ {ss : List SD} {σ : L2.St}, StOk K B ss σ → StOk K B' ss σ
  | [], [], h => h
  | _ :: _, _ :: _, h => ⟨sl_mono e h.1, st_mono e h.2⟩
  | [], _ :: _, h => h
  | _ :: _, [], h => h
theorem kv_mono {κ : Type} (e : Ex B B') : ∀ {ss : List (κ × PyData)} {vs : List (κ × V)}, KvOk B ss vs → KvOk B' ss vs
  | [], [], h => h
  | _ :: _, _ :: _, h => ⟨⟨h.1.1, dp_mono e h.1.2⟩, kv_mono e h.2⟩
  | [], _ :: _, h => h
  | _ :: _, [], h => h
theorem fs_mono (e : Ex B B') : ∀ {ss : List (Str × SD)} {vs : List (Str × V)}, FsOk K B ss vs → FsOk K B' ss vs
  | [], [], h => h
  | _ :: _, _ :: _, h => ⟨⟨h.1.1, sd_mono e h.1.2⟩, fs_mono e h.2⟩
  | [], _ :: _, h => h
  | _ :: _, [], h => h
theorem cd_mono (e : Ex B B') {c : CD} {o : HO} (h : CdOk K B c o) : CdOk K B' c o := by
  cases c <;> cases o <;> first | exact h | exact dpa_mono e h | exact sda_mono e h | exact kv_mono e h | exact ⟨h.1, h.2.1, fs_mono e h.2.2⟩ | exact ⟨h.1, h.2.1, kv_mono e h.2.2⟩

theorem cd_nt {c : CD} {o : HO} (h : CdOk K B c o) (xs : List V) : o ≠ .tup xs := fun e => by
  subst e
  cases c <;> first | exact h.elim | exact h.2 xs h.1
/-- slots -/
theorem sl_some : ∀ {s : SD} {o : Option V}, (s ≠ .un) → SlOk K B s o → ∃ v, o = some v ∧ SdOk K B s v
  | .un, _, h, _ => absurd rfl h
  | .da _, some v, _, h => ⟨v, rfl, h⟩
  | .rf _, some v, _, h => ⟨v, rfl, h⟩
  | .sl _ _, some v, _, h => ⟨v, rfl, h⟩
  | .tp _, some v, _, h => ⟨v, rfl, h⟩
  | .tp _, none, _, h => h.elim
  | .da _, none, _, h => h.elim
  | .rf _, none, _, h => h.elim
  | .sl _ _, none, _, h => h.elim
theorem sl_of : ∀ {s : SD} {v : V}, SdOk K B s v → SlOk K B s (some v)
  | .un, _, h => h
  | .da _, _, h => h
  | .rf _, _, h => h
  | .sl _ _, _, h => h
  | .tp _, _, h => h
theorem st_get : ∀ {ds : List SD} {σ : L2.St} {i : Nat} {s : SD}, StOk K B ds σ → ds[i]? = some s → ∃ o, σ[i]? = some o ∧ SlOk K B s o
  | [], _, _, _, _, h => by simp at h
  | _ :: _, [], _, _, h, _ => h.elim
  | a :: as, v :: vs, 0, s, h, e => by
    have e' : a = s := Option.some.inj e
    subst e'
    exact ⟨v, rfl, h.1⟩
  | _ :: as, _ :: vs, i + 1, s, h, e => st_get (i := i) h.2 e
theorem st_set : ∀ {ds : List SD} {σ : L2.St} (i : Nat) {s : SD} {o : Option V}, StOk K B ds σ → SlOk K B s o → StOk K B (ds.set i s) (σ.set i o)
  | [], [], _, _, _, h, _ => h
  | _ :: _, [], _, _, _, h, _ => h.elim
  | [], _ :: _, _, _, _, h, _ => h.elim
  | _ :: _, _ :: _, 0, _, _, h, q => ⟨q, h.2⟩
  | _ :: _, _ :: _, i + 1, _, _, h, q => ⟨h.1, st_set i h.2 q⟩
/-- less is known -/
inductive Wk : SD → SD → Prop
  | rfl {s} : Wk s s
  | un {s} : Wk s .un
theorem Wk.sl {s t : SD} {o : Option V} (w : Wk s t) (h : SlOk K B s o) : SlOk K B t o := by
  cases w with
  | rfl => exact h
  | un => cases o <;> exact True.intro
inductive Wks : List SD → List SD → Prop
  | nil : Wks [] []
  | cons {a b : SD} {as bs : List SD} : Wk a b → Wks as bs → Wks (a :: as) (b :: bs)
theorem Wks.st : ∀ {ds es : List SD} {σ : L2.St}, Wks ds es → StOk K B ds σ → StOk K B es σ
  | _, _, [], .nil, h => h
  | _, _, _ :: _, .nil, h => h.elim
  | _, _, [], .cons _ _, h => h.elim
  | _, _, _ :: _, .cons a t, h => ⟨a.sl h.1, t.st h.2⟩
theorem Wks.refl : ∀ (ds : List SD), Wks ds ds
  | [] => .nil
  | _ :: r => .cons .rfl (Wks.refl r)
end

/-- the cells m are owned in H, the rest of what is known stands in B -/
structure SOk (K : PySem.W.Frag) (B : Hp) (m : M) (H : Hp) : Prop where
  ext : Ex B H
  nd : (keys m).Nodup
  out : ∀ p ∈ m, B p.1 = none
  cel : ∀ p ∈ m, ∃ o, H p.1 = some o ∧ CdOk K B p.2 o
/-- from B, H with the cells k to B', H' with the cells k' -/
structure Tr (B H : Hp) (k : List Addr) (B' H' : Hp) (k' : List Addr) : Prop where
  ex : Ex B B'
  new : ∀ a, H a ≠ none → (∀ xs, H a ≠ some (.tup xs)) → B a = none → B' a = none
  tp : ∀ a, H a ≠ none → (∀ xs, H a ≠ some (.tup xs)) → ∀ xs, H' a ≠ some (.tup xs)
  keep : ∀ a o, a ∉ k → H a = some o → H' a = some o
  kys : ∀ a ∈ k', a ∈ k ∨ H a = none
  grow : ∀ a, H a ≠ none → H' a ≠ none

section
variable {K : PySem.W.Frag} {B B1 B2 B3 H H1 H2 H3 : Hp} {k k1 k2 k3 : List Addr} {m m1 m2 : M}
theorem Tr.refl (B H : Hp) (k : List Addr) : Tr B H k B H k := ⟨Ex.refl _, fun _ _ _ h => h, fun _ _ h => h, fun _ _ _ h => h, fun _ h => .inl h, fun _ h => h⟩
theorem Tr.trans (a : Tr B H k B1 H1 k1) (b : Tr B1 H1 k1 B2 H2 k2) : Tr B H k B2 H2 k2 where
  ex := a.ex.trans b.ex
  new := fun x h1 hn h2 => b.new x (a.grow x h1) (a.tp x h1 hn) (a.new x h1 hn h2)
  tp := fun x h1 hn => b.tp x (a.grow x h1) (a.tp x h1 hn)
  keep := fun x o hk e => b.keep x o (fun q => (a.kys x q).elim hk fun z => by rw [e] at z; cases z) (a.keep x o hk e)
  kys := fun x q => (b.kys x q).elim (fun z => a.kys x z) fun z => by
    by_cases h : H x = none
    · exact .inr h
    · exact absurd z (a.grow x h)
  grow := fun x h => b.grow x (a.grow x h)
theorem some_ne {α : Type} {o : Option α} {x : α} (h : o = some x) : o ≠ none := by rw [h]; exact fun z => nomatch z
theorem SOk.ne (s : SOk K B m H) {p : Addr × CD} (hp : p ∈ m) : H p.1 ≠ none := by
  obtain ⟨o, e, _⟩ := s.cel p hp
  exact some_ne e
/-- an extension by new things -/
theorem Tr.ext (s : SOk K B m H) (e : Ex H H2) : Tr B H (keys m) B H2 (keys m) := ⟨Ex.refl _, fun _ _ _ h => h, fun a h hn xs z => by
  cases q : H a with
  | none => exact h q
  | some o =>
    rw [e a o q] at z
    exact hn xs (by rw [q]; exact z), fun a o _ h => e a o h, fun _ h => .inl h, fun a h => by
  cases q : H a with
  | none => exact absurd q h
  | some o => exact some_ne (e a o q)⟩
theorem SOk.grow (s : SOk K B m H) (e : Ex H H2) : SOk K B m H2 := ⟨s.ext.trans e, s.nd, s.out, fun p hp => by
  obtain ⟨o, h1, h2⟩ := s.cel p hp
  exact ⟨o, e _ _ h1, h2⟩⟩
theorem fresh_b (s : SOk K B m H) {p : Addr} (h : H p = none) : B p = none := fresh_back s.ext h
theorem fresh_k (s : SOk K B m H) {p : Addr} (h : H p = none) : p ∉ keys m := fun q => by
  obtain ⟨c, hc, e⟩ := List.mem_map.mp q
  exact s.ne hc (by rw [e]; exact h)
/-- a new thing goes to the persistent heap -/
theorem Tr.data (s : SOk K B m H) {p : Addr} {o : HO} (h : H p = none) : Tr B H (keys m) (upd B p o) (upd H p o) (keys m) where
  ex := Ex.new (fresh_b s h)
  new := fun a h1 _ h2 => by
    rw [upd_ne (fun e => by subst e; exact h1 h)]
    exact h2
  tp := fun a h1 hn xs => by
    rw [upd_ne (fun e => by subst e; exact h1 h)]
    exact hn xs
  keep := fun a u _ e => by
    rw [upd_ne (ne_of_none e h)]
    exact e
  kys := fun _ z => .inl z
  grow := fun a h1 => by
    rw [upd_ne (fun e => by subst e; exact h1 h)]
    exact h1
theorem ex_upd (e : Ex B H) {p : Addr} {o : HO} : Ex (upd B p o) (upd H p o) := fun a u h => by
  by_cases q : a = p
  · subst q
    rw [upd_same] at h ⊢
    exact h
  · rw [upd_ne q] at h ⊢
    exact e a u h
theorem SOk.data (s : SOk K B m H) {p : Addr} {o : HO} (h : H p = none) : SOk K (upd B p o) m (upd H p o) := ⟨ex_upd s.ext, s.nd, fun q hq => by
    rw [upd_ne (fun e => s.ne hq (by rw [e]; exact h))]
    exact s.out q hq, fun q hq => by
    obtain ⟨u, h1, h2⟩ := s.cel q hq
    exact ⟨u, by rw [upd_ne (ne_of_none h1 h)]; exact h1, cd_mono (Ex.new (fresh_b s h)) h2⟩⟩
theorem keys_app (m : M) (p : Addr) (c : CD) : keys (m ++ [(p, c)]) = keys m ++ [p] := by
  show List.map _ _ = _
  rw [List.map_append]
  rfl
/-- a new thing becomes a cell -/
theorem Tr.cell (s : SOk K B m H) {p : Addr} {o : HO} {c : CD} (h : H p = none) : Tr B H (keys m) B (upd H p o) (keys (m ++ [(p, c)])) where
  ex := Ex.refl _
  new := fun _ _ _ h2 => h2
  tp := fun a h1 hn xs => by
    rw [upd_ne (fun e => by subst e; exact h1 h)]
    exact hn xs
  keep := fun a u _ e => by
    rw [upd_ne (ne_of_none e h)]
    exact e
  kys := fun a z => by
    rw [keys_app] at z
    rcases List.mem_append.mp z with z | z
    · exact .inl z
    · have e : a = p := by simpa using z
      exact .inr (by rw [e]; exact h)
  grow := fun a h1 => by
    rw [upd_ne (fun e => by subst e; exact h1 h)]
    exact h1
theorem SOk.cell (s : SOk K B m H) {p : Addr} {o : HO} {c : CD} (h : H p = none) (hc : CdOk K B c o) : SOk K B (m ++ [(p, c)]) (upd H p o) where
  ext := fun a u e => by
    rw [upd_ne (ne_of_none e (fresh_b s h))]
    exact s.ext a u e
  nd := by
    rw [keys_app]
    refine List.nodup_append.mpr ⟨s.nd, by simp, fun a ha b hb => ?_⟩
    have e : b = p := by simpa using hb
    subst e
    exact fun z => fresh_k s h (z ▸ ha)
  out := fun q hq => (List.mem_append.mp hq).elim (fun z => s.out q z) fun z => by
    have e : q = (p, c) := by simpa using z
    rw [e]
    exact fresh_b s h
  cel := fun q hq => (List.mem_append.mp hq).elim (fun z => by
      obtain ⟨u, h1, h2⟩ := s.cel q z
      exact ⟨u, by rw [upd_ne (ne_of_none h1 h)]; exact h1, h2⟩) fun z => by
    have e : q = (p, c) := by simpa using z
    rw [e]
    exact ⟨o, upd_same, hc⟩
/-- a cell is written -/
theorem set_same {α : Type} : ∀ {l : List α} {j : Nat} {x : α}, l[j]? = some x → l.set j x = l
  | [], _, _, h => by simp at h
  | a :: r, 0, x, h => by
    have e : a = x := Option.some.inj h
    rw [e]
    rfl
  | a :: r, j + 1, x, h => by
    show a :: r.set j x = a :: r
    rw [set_same (l := r) (j := j) h]
theorem keys_set {j : Nat} {l : Addr} {c c' : CD} (hm : m[j]? = some (l, c)) : keys (m.set j (l, c')) = keys m := by
  unfold keys
  rw [List.map_set]
  exact set_same (by rw [List.getElem?_map, hm]; rfl)
theorem mem_set_cases {α : Type} : ∀ {l : List α} {j : Nat} {x y : α}, x ∈ l.set j y → (∃ i, i ≠ j ∧ l[i]? = some x) ∨ (x = y)
  | [], _, _, _, h => by simp at h
  | a :: r, 0, x, y, h => by
    rcases List.mem_cons.mp h with e | h
    · exact .inr e
    · obtain ⟨i, hi⟩ := List.mem_iff_getElem?.mp h
      exact .inl ⟨i + 1, by omega, hi⟩
  | a :: r, j + 1, x, y, h => by
    rcases List.mem_cons.mp h with e | h
    · exact .inl ⟨0, by omega, by rw [e]; rfl⟩
    · rcases mem_set_cases (l := r) h with ⟨i, hi, e⟩ | e
      · exact .inl ⟨i + 1, by omega, e⟩
      · exact .inr e
theorem key_ne (nd : (keys m).Nodup) {i j : Nat} {p q : Addr × CD} (hi : m[i]? = some p) (hj : m[j]? = some q) (h : i ≠ j) : p.1 ≠ q.1 := fun e => by
  have h1 : (keys m)[i]? = some p.1 := by rw [List.getElem?_map, hi]; rfl
  have h2 : (keys m)[j]? = some p.1 := by rw [List.getElem?_map, hj, e]; rfl
  exact h (nd_ix nd h1 h2)
theorem SOk.put (s : SOk K B m H) {j : Nat} {l : Addr} {c c' : CD} {o : HO} (hm : m[j]? = some (l, c)) (hc : CdOk K B c' o) : SOk K B (m.set j (l, c')) (upd H l o) where
  ext := fun a u e => by
    have hl : B l = none := s.out (l, c) (List.mem_of_getElem? hm)
    rw [upd_ne (ne_of_none e hl)]
    exact s.ext a u e
  nd := by
    rw [keys_set hm]
    exact s.nd
  out := fun q hq => by
    rcases mem_set_cases hq with ⟨i, _, e⟩ | e
    · exact s.out q (List.mem_of_getElem? e)
    · rw [e]
      exact s.out (l, c) (List.mem_of_getElem? hm)
  cel := fun q hq => by
    rcases mem_set_cases hq with ⟨i, hi, e⟩ | e
    · obtain ⟨u, h1, h2⟩ := s.cel q (List.mem_of_getElem? e)
      exact ⟨u, by rw [upd_ne (key_ne s.nd e hm hi)]; exact h1, h2⟩
    · rw [e]
      exact ⟨o, upd_same, hc⟩
theorem Tr.put (s : SOk K B m H) {j : Nat} {l : Addr} {c c' : CD} {o : HO} (hm : m[j]? = some (l, c)) (hc : CdOk K B c' o) : Tr B H (keys m) B (upd H l o) (keys (m.set j (l, c'))) where
  ex := Ex.refl _
  new := fun _ _ _ h => h
  tp := fun a h1 hn xs => by
    by_cases e : a = l
    · rw [e, upd_same]
      exact fun z => cd_nt hc xs (Option.some.inj z)
    · rw [upd_ne e]
      exact hn xs
  keep := fun a u hk e => by
    have : a ≠ l := fun z => hk (z ▸ List.mem_map.mpr ⟨(l, c), List.mem_of_getElem? hm, rfl⟩)
    rw [upd_ne this]
    exact e
  kys := fun a z => by
    rw [keys_set hm] at z
    exact .inl z
  grow := fun a h1 => by
    by_cases e : a = l
    · rw [e, upd_same]
      exact fun z => nomatch z
    · rw [upd_ne e]
      exact h1
theorem SOk.at (s : SOk K B m H) {j : Nat} {l : Addr} {c : CD} (hm : m[j]? = some (l, c)) : ∃ o, H l = some o ∧ CdOk K B c o := s.cel (l, c) (List.mem_of_getElem? hm)
theorem SOk.ls (s : SOk K B m H) {j : Nat} {l : Addr} {ds : List PyData} (hm : m[j]? = some (l, .ls ds)) : ∃ vs, H l = some (.lst vs) ∧ DqAll B vs ds := by
  obtain ⟨o, h, c⟩ := s.at hm
  cases o <;> first | exact ⟨_, h, c⟩ | exact c.elim
/-- fewer cells -/
theorem SOk.sub (s : SOk K B m H) (h : m1.Sublist m) : SOk K B m1 H := ⟨s.ext, s.nd.sublist (h.map _), fun p hp => s.out p (h.subset hp), fun p hp => s.cel p (h.subset hp)⟩
theorem Tr.sub (t : Tr B H k B1 H1 k1) (h : ∀ a ∈ k2, a ∈ k1) : Tr B H k B1 H1 k2 := ⟨t.ex, t.new, t.tp, t.keep, fun a z => t.kys a (h a z), t.grow⟩
/-- a new cell is frozen -/
theorem SOk.frz (s : SOk K B m H) {j : Nat} {l : Addr} {c : CD} {o : HO} (hm : m[j]? = some (l, c)) (ho : H l = some o) : SOk K (upd B l o) (m.eraseIdx j) H where
  ext := fun a u e => by
    by_cases q : a = l
    · subst q
      rw [upd_same] at e
      rw [← e]
      exact ho
    · rw [upd_ne q] at e
      exact s.ext a u e
  nd := s.nd.sublist ((List.eraseIdx_sublist m j).map _)
  out := fun q hq => by
    obtain ⟨i, hi, e⟩ : ∃ i, i ≠ j ∧ m[i]? = some q := by
      obtain ⟨i, hi⟩ := List.mem_iff_getElem?.mp hq
      rw [List.getElem?_eraseIdx] at hi
      split at hi
      · exact ⟨i, by omega, hi⟩
      · exact ⟨i + 1, by omega, hi⟩
    rw [upd_ne (key_ne s.nd e hm hi)]
    exact s.out q (List.mem_of_getElem? e)
  cel := fun q hq => by
    obtain ⟨u, h1, h2⟩ := s.cel q ((List.eraseIdx_sublist m j).subset hq)
    exact ⟨u, h1, cd_mono (Ex.new (s.out (l, c) (List.mem_of_getElem? hm))) h2⟩
theorem Tr.frz (t : Tr B H k B1 H1 (keys m)) (s : SOk K B1 m H1) (hk : ∀ a ∈ k, H a ≠ none) {j : Nat} {l : Addr} {c : CD} {o : HO} (hm : m[j]? = some (l, c)) (hl : l ∉ k) : Tr B H k (upd B1 l o) H1 (keys (m.eraseIdx j)) where
  ex := t.ex.trans (Ex.new (s.out (l, c) (List.mem_of_getElem? hm)))
  tp := t.tp
  new := fun a h1 hn h2 => by
    have hH : H l = none := (t.kys l (List.mem_map.mpr ⟨(l, c), List.mem_of_getElem? hm, rfl⟩)).resolve_left hl
    rw [upd_ne (fun e => by subst e; exact h1 hH)]
    exact t.new a h1 hn h2
  keep := t.keep
  kys := fun a z => t.kys a (((List.eraseIdx_sublist m j).map _).subset z)
  grow := t.grow
/-- a heap that is longer: what is new there goes to the persistent one, tuples that stood too -/
noncomputable def fill (B H H' : Hp) : Hp := fun a => open Classical in if H a = none ∨ (∃ xs, H a = some (.tup xs)) then H' a else B a
theorem fill_new {a : Addr} (h : H a = none) : fill B H H1 a = H1 a := by
  unfold fill
  rw [if_pos (Or.inl h)]
theorem fill_tup {a : Addr} {xs : List V} (h : H a = some (.tup xs)) : fill B H H1 a = H1 a := by
  unfold fill
  rw [if_pos (Or.inr ⟨xs, h⟩)]
theorem fill_old (s : Ex B H) (e : Ex H H1) : Ex B (fill B H H1) := fun a o h => by
  unfold fill
  split
  · exact e a o (s a o h)
  · exact h
theorem Tr.fill (s : SOk K B m H) (e : Ex H H1) : Tr B H (keys m) (fill B H H1) H1 (keys m) ∧ SOk K (FC.fill B H H1) m H1 := by
  have old := fill_old s.ext e
  refine ⟨⟨old, fun a h1 hn h2 => ?_, fun a h1 hn xs z => ?_, fun a o _ h => e a o h, fun _ h => .inl h, fun a h => ?_⟩, ⟨fun a o h => ?_, s.nd, fun p hp => ?_, fun p hp => ?_⟩⟩
  · unfold FC.fill
    rw [if_neg (fun z => z.elim h1 fun ⟨xs, q⟩ => hn xs q)]
    exact h2
  · cases q : H a with
    | none => exact h1 q
    | some o =>
      rw [e a o q] at z
      exact hn xs (by rw [q]; exact z)
  · cases q : H a with
    | none => exact absurd q h
    | some o => exact some_ne (e a o q)
  · unfold FC.fill at h
    split at h
    · exact h
    · exact e a o (s.ext a o h)
  · obtain ⟨o, h1, h2⟩ := s.cel p hp
    unfold FC.fill
    rw [if_neg (fun z => z.elim (fun q => by rw [h1] at q; cases q) fun ⟨xs, q⟩ => cd_nt h2 xs (Option.some.inj (h1.symm.trans q)))]
    exact s.out p hp
  · obtain ⟨o, h1, h2⟩ := s.cel p hp
    exact ⟨o, e _ _ h1, cd_mono old h2⟩
end
end FC
set_option maxHeartbeats 4000000
/-! FB: what expressions give in a symbolic state. -/
namespace FC
open PySem PySem.Spec PyProof.Rows L2 Evl

/-! ### judgements -/
def EvX (K : PySem.W.Frag) (te : TE) (ds : List SD) (m : M) (R : SD → M → Prop) : Prop :=
  ∀ B H σ, SOk K B m H → StOk K B ds σ → ∀ Q : VK, (∀ v B2 H2 r m2, R r m2 → Tr B H (keys m) B2 H2 (keys m2) → SOk K B2 m2 H2 → SdOk K B2 r v → Q v H2) → te σ H Q
def Ev (K : PySem.W.Frag) (te : TE) (ds : List SD) (m : M) (r : SD) (m' : M) : Prop :=
  ∀ B H σ, SOk K B m H → StOk K B ds σ → ∀ Q : VK, (∀ v B2 H2, Tr B H (keys m) B2 H2 (keys m') → SOk K B2 m' H2 → SdOk K B2 r v → Q v H2) → te σ H Q
def EvN (K : PySem.W.Frag) (te : TE) (ds : List SD) (m : M) (c : CD) (m' : M) : Prop :=
  ∀ B H σ, SOk K B m H → StOk K B ds σ → ∀ Q : VK, (∀ p B2 H2, Tr B H (keys m) B2 H2 (keys (m' ++ [(p, c)])) → SOk K B2 (m' ++ [(p, c)]) H2 → Q (.ref p) H2) → te σ H Q
def EvT (K : PySem.W.Frag) (tt : TT) (ds : List SD) (m : M) (b : Bool) (m' : M) : Prop :=
  ∀ B H σ, SOk K B m H → StOk K B ds σ → ∀ Q : Bool → Hp → Prop, (∀ B2 H2, Tr B H (keys m) B2 H2 (keys m') → SOk K B2 m' H2 → Q b H2) → tt σ H Q
def EvA (K : PySem.W.Frag) (ta : TA) (ds : List SD) (m : M) (rs : List SD) (m' : M) : Prop :=
  ∀ B H σ, SOk K B m H → StOk K B ds σ → ∀ Q : List V → Hp → Prop, (∀ vs B2 H2, Tr B H (keys m) B2 H2 (keys m') → SOk K B2 m' H2 → SdAll K B2 rs vs → Q vs H2) → ta σ H Q
def EvO (K : PySem.W.Frag) (to : TO) (ds : List SD) (m : M) (o : Option Int) (m' : M) : Prop :=
  ∀ B H σ, SOk K B m H → StOk K B ds σ → ∀ Q : Option Int → Hp → Prop, (∀ B2 H2, Tr B H (keys m) B2 H2 (keys m') → SOk K B2 m' H2 → Q o H2) → to σ H Q
/-- operations by values -/
def Rr (K : PySem.W.Frag) (r : R2) (a b : SD) (m : M) (c : SD) (m' : M) : Prop :=
  ∀ B H x y, SOk K B m H → SdOk K B a x → SdOk K B b y → ∀ Q : VK, (∀ v B2 H2, Tr B H (keys m) B2 H2 (keys m') → SOk K B2 m' H2 → SdOk K B2 c v → Q v H2) → r x y H Q
def Ru (K : PySem.W.Frag) (r : V → Hp → VK → Prop) (a : SD) (m : M) (c : SD) (m' : M) : Prop :=
  ∀ B H x, SOk K B m H → SdOk K B a x → ∀ Q : VK, (∀ v B2 H2, Tr B H (keys m) B2 H2 (keys m') → SOk K B2 m' H2 → SdOk K B2 c v → Q v H2) → r x H Q
def Rc (K : PySem.W.Frag) (r : List V → Hp → VK → Prop) (as : List SD) (m : M) (c : SD) (m' : M) : Prop :=
  ∀ B H xs, SOk K B m H → SdAll K B as xs → ∀ Q : VK, (∀ v B2 H2, Tr B H (keys m) B2 H2 (keys m') → SOk K B2 m' H2 → SdOk K B2 c v → Q v H2) → r xs H Q
def RcN (K : PySem.W.Frag) (r : List V → Hp → VK → Prop) (as : List SD) (m : M) (c : CD) (m' : M) : Prop :=
  ∀ B H xs, SOk K B m H → SdAll K B as xs → ∀ Q : VK, (∀ p B2 H2, Tr B H (keys m) B2 H2 (keys (m' ++ [(p, c)])) → SOk K B2 (m' ++ [(p, c)]) H2 → Q (.ref p) H2) → r xs H Q
/-- a method of a built-in's, by values -/
def Rm (K : PySem.W.Frag) (r : V → List V → Hp → VK → Prop) (a : SD) (as : List SD) (m : M) (c : SD) (m' : M) : Prop :=
  ∀ B H x xs, SOk K B m H → SdOk K B a x → SdAll K B as xs → ∀ Q : VK, (∀ v B2 H2, Tr B H (keys m) B2 H2 (keys m') → SOk K B2 m' H2 → SdOk K B2 c v → Q v H2) → r x xs H Q

section
variable {K : PySem.W.Frag} {B B' H H' : Hp} {ds : List SD} {m m1 m2 m3 m4 m' : M} {ta tb tc te : TE} {t u : TT} {a b c r s : SD} {d e : PyData} {rs as : List SD}
theorem Ev.x (h : Ev K te ds m r m') : EvX K te ds m (fun r2 m2 => r2 = r ∧ m2 = m') := fun B H σ s st Q q => h B H σ s st Q fun v B2 H2 t s2 d => q v B2 H2 r m' ⟨rfl, rfl⟩ t s2 d
theorem EvN.x {c : CD} (h : EvN K te ds m c m') : EvX K te ds m (fun r2 m2 => ∃ p, r2 = .rf p ∧ m2 = m' ++ [(p, c)]) := fun B H σ s st Q q => h B H σ s st Q fun p B2 H2 t s2 => q _ B2 H2 (.rf p) _ ⟨p, rfl, rfl⟩ t s2 rfl

/-! ### the frame -/
theorem key_app (m f : M) : keys (m ++ f) = keys m ++ keys f := List.map_append
theorem fr_ok {f : M} {B2 H2 : Hp} (s : SOk K B (m ++ f) H) (t : Tr B H (keys m) B2 H2 (keys m')) (s2 : SOk K B2 m' H2) : Tr B H (keys (m ++ f)) B2 H2 (keys (m' ++ f)) ∧ SOk K B2 (m' ++ f) H2 := by
  have nd := s.nd
  rw [key_app] at nd
  have dj := (List.nodup_append.mp nd).2.2
  have hf : ∀ p ∈ f, ∃ o, H2 p.1 = some o ∧ CdOk K B2 p.2 o := fun p hp => by
    obtain ⟨o, h1, h2⟩ := s.cel p (List.mem_append_right _ hp)
    exact ⟨o, t.keep _ _ (fun z => dj _ z _ (List.mem_map.mpr ⟨p, hp, rfl⟩) rfl) h1, cd_mono t.ex h2⟩
  refine ⟨⟨t.ex, t.new, t.tp, fun x o hk e => t.keep x o (fun z => hk (by rw [key_app]; exact List.mem_append_left _ z)) e, fun x z => ?_, t.grow⟩, ⟨s2.ext, ?_, fun p hp => ?_, fun p hp => ?_⟩⟩
  · rw [key_app] at z ⊢
    rcases List.mem_append.mp z with z | z
    · exact (t.kys x z).imp (fun q => List.mem_append_left _ q) id
    · exact .inl (List.mem_append_right _ z)
  · rw [key_app]
    refine List.nodup_append.mpr ⟨s2.nd, (List.nodup_append.mp nd).2.1, fun x hx y hy e => ?_⟩
    subst e
    rcases t.kys x hx with q | q
    · exact dj _ q _ hy rfl
    · obtain ⟨p, hp, e⟩ := List.mem_map.mp hy
      exact s.ne (List.mem_append_right _ hp) (by rw [e]; exact q)
  · rcases List.mem_append.mp hp with z | z
    · exact s2.out p z
    · obtain ⟨o, h1, h2⟩ := s.cel p (List.mem_append_right _ z)
      exact t.new _ (some_ne h1) (fun xs q => cd_nt h2 xs (Option.some.inj (h1.symm.trans q))) (s.out p (List.mem_append_right _ z))
  · rcases List.mem_append.mp hp with z | z
    · exact s2.cel p z
    · exact hf p z
theorem Ev.frame (f : M) (h : Ev K te ds m r m') : Ev K te ds (m ++ f) r (m' ++ f) := fun B H σ s st Q q => h B H σ (s.sub (List.sublist_append_left m f)) st Q fun v B2 H2 t s2 d => by
  obtain ⟨t', s'⟩ := fr_ok s t s2
  exact q v B2 H2 t' s' d
theorem EvT.frame {b : Bool} (f : M) (h : EvT K t ds m b m') : EvT K t ds (m ++ f) b (m' ++ f) := fun B H σ s st Q q => h B H σ (s.sub (List.sublist_append_left m f)) st Q fun B2 H2 t s2 => by
  obtain ⟨t', s'⟩ := fr_ok s t s2
  exact q B2 H2 t' s'
/-- an expression that needs no cell and changes none -/
theorem Ev.pure (m : M) (h : Ev K te ds [] r []) : Ev K te ds m r m := Ev.frame m h

/-! ### names, constants -/
theorem ev_var {i : Nat} (h : ds[i]? = some (.da d)) : Ev K (tVar i) ds m (.da d) m := fun B H σ s st Q q => by
  obtain ⟨o, e, w⟩ := st_get st h
  obtain ⟨v, rfl, w⟩ := sl_some (s := .da d) (fun z => nomatch z) w
  exact ⟨v, e, q v B H (Tr.refl _ _ _) s w⟩
theorem ev_rf {i : Nat} {l : Addr} (h : ds[i]? = some (.rf l)) : Ev K (tVar i) ds m (.rf l) m := fun B H σ s st Q q => by
  obtain ⟨o, e, w⟩ := st_get st h
  obtain ⟨v, rfl, w⟩ := sl_some (s := .rf l) (fun z => nomatch z) w
  exact ⟨v, e, q v B H (Tr.refl _ _ _) s w⟩
theorem ev_sc {i : Nat} {l : Addr} {ns : List Int} (h : ds[i]? = some (.sl l ns)) : Ev K (tVar i) ds m (.sl l ns) m := fun B H σ s st Q q => by
  obtain ⟨o, e, w⟩ := st_get st h
  obtain ⟨v, rfl, w⟩ := sl_some (s := .sl l ns) (fun z => nomatch z) w
  exact ⟨v, e, q v B H (Tr.refl _ _ _) s w⟩
theorem ev_int {i : Int} : Ev K (tC (.int i)) ds m (.da (.int i)) m := fun B H σ s st Q q => q _ B H (Tr.refl _ _ _) s (.int i)
theorem ev_bl {i : Bool} : Ev K (tC (.bl i)) ds m (.da (.bool i)) m := fun B H σ s st Q q => q _ B H (Tr.refl _ _ _) s (.bl i)
theorem ev_str {i : Str} : Ev K (tC (.str i)) ds m (.da (.str i)) m := fun B H σ s st Q q => q _ B H (Tr.refl _ _ _) s (.str i)
theorem ev_non : Ev K (tC .non) ds m (.da .none) m := fun B H σ s st Q q => q _ B H (Tr.refl _ _ _) s .non

/-! ### operators, tests -/
theorem ev_op {ro : R2} (ha : Ev K ta ds m a m1) (hb : Ev K tb ds m1 b m2) (hr : Rr K ro a b m2 c m3) : Ev K (tOp ro ta tb) ds m c m3 := fun B H σ s st Q q =>
  ha B H σ s st _ fun x B1 H1 t1 s1 d1 => hb B1 H1 σ s1 (st_mono t1.ex st) _ fun y B2 H2 t2 s2 d2 => hr B2 H2 x y s2 (sd_mono t2.ex d1) d2 Q fun v B3 H3 t3 s3 d3 => q v B3 H3 ((t1.trans t2).trans t3) s3 d3
theorem ev_un {ro : V → Hp → VK → Prop} (ha : Ev K ta ds m a m1) (hr : Ru K ro a m1 c m2) : Ev K (tUn ro ta) ds m c m2 := fun B H σ s st Q q =>
  ha B H σ s st _ fun x B1 H1 t1 s1 d1 => hr B1 H1 x s1 d1 Q fun v B3 H3 t3 s3 d3 => q v B3 H3 (t1.trans t3) s3 d3
theorem ev_chain {r1 r2 : R2} {k k2 : Bool} (ha : Ev K ta ds m a m1) (hb : Ev K tb ds m1 b m2) (hr : Rr K r1 a b m2 (.da (.bool k)) m3)
    (hc : k = true → ∃ m4, Ev K tc ds m3 c m4 ∧ Rr K r2 b c m4 (.da (.bool k2)) m') (hf : k = false → k2 = false ∧ m' = m3) : Ev K (tChain r1 r2 ta tb tc) ds m (.da (.bool k2)) m' := fun B H σ s st Q q =>
  ha B H σ s st _ fun x B1 H1 t1 s1 d1 => hb B1 H1 σ s1 (st_mono t1.ex st) _ fun y B2 H2 t2 s2 d2 => hr B2 H2 x y s2 (sd_mono t2.ex d1) d2 _ fun v B3 H3 t3 s3 d3 => by
    cases d3 with
    | bl k =>
      refine ⟨k, rfl, ?_⟩
      cases k with
      | true =>
        obtain ⟨m4, h1, h2⟩ := hc rfl
        exact iteT (h1 B3 H3 σ s3 (st_mono (t1.ex.trans (t2.ex.trans t3.ex)) st) _ fun z B4 H4 t4 s4 d4 => h2 B4 H4 y z s4 (sd_mono (t3.ex.trans t4.ex) d2) d4 Q fun v5 B5 H5 t5 s5 d5 => q v5 B5 H5 ((((t1.trans t2).trans t3).trans t4).trans t5) s5 d5)
      | false =>
        obtain ⟨e1, e2⟩ := hf rfl
        subst e1 e2
        exact iteF (q _ B3 H3 ((t1.trans t2).trans t3) s3 (.bl _))
theorem et_val {b : Bool} (h : Ev K te ds m (.da (.bool b)) m') : EvT K (tB te) ds m b m' := fun B H σ s st Q q => h B H σ s st _ fun v B2 H2 t s2 d => by
  cases d
  exact ⟨b, rfl, q B2 H2 t s2⟩
theorem et_test {b : Bool} (h : Ev K te ds m (.da (.bool b)) m') : EvT K (tTest te) ds m b m' := fun B H σ s st Q q => h B H σ s st _ fun v B2 H2 t s2 d => by
  cases d
  exact ⟨b, rfl, q B2 H2 t s2⟩
theorem et_not {b : Bool} (h : EvT K t ds m b m') : EvT K (tNot t) ds m (!b) m' := fun B H σ s st Q q => h B H σ s st _ q
theorem et_and {k k2 : Bool} (h : EvT K t ds m k m1) (hc : k = true → EvT K u ds m1 k2 m') (hf : k = false → k2 = false ∧ m' = m1) : EvT K (tAnd t u) ds m k2 m' := fun B H σ s st Q q => h B H σ s st _ fun B1 H1 t1 s1 => by
  cases k with
  | true => exact iteT (hc rfl B1 H1 σ s1 (st_mono t1.ex st) Q fun B2 H2 t2 s2 => q B2 H2 (t1.trans t2) s2)
  | false =>
    obtain ⟨e1, e2⟩ := hf rfl
    subst e1 e2
    exact iteF (q B1 H1 t1 s1)
theorem et_or {k k2 : Bool} (h : EvT K t ds m k m1) (hc : k = false → EvT K u ds m1 k2 m') (hf : k = true → k2 = true ∧ m' = m1) : EvT K (tOr t u) ds m k2 m' := fun B H σ s st Q q => h B H σ s st _ fun B1 H1 t1 s1 => by
  cases k with
  | false => exact iteF (hc rfl B1 H1 σ s1 (st_mono t1.ex st) Q fun B2 H2 t2 s2 => q B2 H2 (t1.trans t2) s2)
  | true =>
    obtain ⟨e1, e2⟩ := hf rfl
    subst e1 e2
    exact iteT (q B1 H1 t1 s1)
theorem ev_andV {k k2 : Bool} (h : Ev K ta ds m (.da (.bool k)) m1) (hc : k = true → Ev K tb ds m1 (.da (.bool k2)) m') (hf : k = false → k2 = false ∧ m' = m1) : Ev K (tAndV ta tb) ds m (.da (.bool k2)) m' := fun B H σ s st Q q => h B H σ s st _ fun v B1 H1 t1 s1 d1 => by
  cases d1
  refine ⟨k, rfl, ?_⟩
  cases k with
  | true => exact iteT (hc rfl B1 H1 σ s1 (st_mono t1.ex st) Q fun v B2 H2 t2 s2 d2 => q v B2 H2 (t1.trans t2) s2 d2)
  | false =>
    obtain ⟨e1, e2⟩ := hf rfl
    subst e1 e2
    exact iteF (q _ B1 H1 t1 s1 (.bl _))
theorem ev_orV {k k2 : Bool} (h : Ev K ta ds m (.da (.bool k)) m1) (hc : k = false → Ev K tb ds m1 (.da (.bool k2)) m') (hf : k = true → k2 = true ∧ m' = m1) : Ev K (tOrV ta tb) ds m (.da (.bool k2)) m' := fun B H σ s st Q q => h B H σ s st _ fun v B1 H1 t1 s1 d1 => by
  cases d1
  refine ⟨k, rfl, ?_⟩
  cases k with
  | false => exact iteF (hc rfl B1 H1 σ s1 (st_mono t1.ex st) Q fun v B2 H2 t2 s2 d2 => q v B2 H2 (t1.trans t2) s2 d2)
  | true =>
    obtain ⟨e1, e2⟩ := hf rfl
    subst e1 e2
    exact iteT (q _ B1 H1 t1 s1 (.bl _))
theorem ev_notV {k : Bool} (h : Ev K ta ds m (.da (.bool k)) m1) : Ev K (tNotV ta) ds m (.da (.bool (!k))) m1 := fun B H σ s st Q q => h B H σ s st _ fun v B1 H1 t1 s1 d1 => by
  cases d1
  exact ⟨k, rfl, q _ B1 H1 t1 s1 (.bl _)⟩
theorem ev_if {k : Bool} (h : EvT K t ds m k m1) (h1 : k = true → Ev K ta ds m1 r m') (h2 : k = false → Ev K tb ds m1 r m') : Ev K (tIf t ta tb) ds m r m' := fun B H σ s st Q q => h B H σ s st _ fun B1 H1 t1 s1 => by
  cases k with
  | true => exact iteT (h1 rfl B1 H1 σ s1 (st_mono t1.ex st) Q fun v B2 H2 t2 s2 d2 => q v B2 H2 (t1.trans t2) s2 d2)
  | false => exact iteF (h2 rfl B1 H1 σ s1 (st_mono t1.ex st) Q fun v B2 H2 t2 s2 d2 => q v B2 H2 (t1.trans t2) s2 d2)

/-! ### arguments, displays, calls of built-ins -/
theorem ea_nil : EvA K tNil ds m [] m := fun B H σ s st Q q => q [] B H (Tr.refl _ _ _) s True.intro
theorem ea_cons {tr : TA} (h : Ev K ta ds m r m1) (hr : EvA K tr ds m1 rs m') : EvA K (tCons ta tr) ds m (r :: rs) m' := fun B H σ s st Q q =>
  h B H σ s st _ fun v B1 H1 t1 s1 d1 => hr B1 H1 σ s1 (st_mono t1.ex st) _ fun vs B2 H2 t2 s2 d2 => q (v :: vs) B2 H2 (t1.trans t2) s2 ⟨sd_mono t2.ex d1, d2⟩
theorem sda_dpa : ∀ {dl : List PyData} {vs : List V}, SdAll K B (dl.map SD.da) vs → DqAll B vs dl
  | [], [], _ => .nil
  | _ :: _, _ :: _, h => .cons h.1 (sda_dpa h.2)
  | [], _ :: _, h => h.elim
  | _ :: _, [], h => h.elim
theorem dpa_len : ∀ {dl : List PyData} {vs : List V}, DqAll B vs dl → vs.length = dl.length
  | _, _, .nil => rfl
  | _, _, .cons _ t => congrArg (· + 1) (dpa_len t)
theorem sda_len : ∀ {as : List SD} {vs : List V}, SdAll K B as vs → vs.length = as.length
  | [], [], _ => rfl
  | _ :: _, _ :: _, h => congrArg (· + 1) (sda_len h.2)
  | [], _ :: _, h => h.elim
  | _ :: _, [], h => h.elim
theorem ev_tup {t : TA} {dl : List PyData} (h : EvA K t ds m (dl.map SD.da) m') (hz : dl.length ≤ 1000) : Ev K (tTup t) ds m (.da (.tuple dl)) m' := fun B H σ s st Q q => h B H σ s st _ fun vs B1 H1 t1 s1 d1 => by
  have da := sda_dpa d1
  have hl := dpa_len da
  exact ⟨Nat.le_of_lt (small1000 (by omega)), fun p hp => q _ _ _ (t1.trans (Tr.data s1 hp)) (s1.data hp) (.tup upd_same (dpa_mono (Ex.new (fresh_b s1 hp)) da))⟩
theorem ev_lst {t : TA} {dl : List PyData} (h : EvA K t ds m (dl.map SD.da) m') (hz : dl.length ≤ 1000) : Ev K (tLst t) ds m (.da (.list dl)) m' := fun B H σ s st Q q => h B H σ s st _ fun vs B1 H1 t1 s1 d1 => by
  have da := sda_dpa d1
  have hl := dpa_len da
  exact ⟨Nat.le_of_lt (small1000 (by omega)), fun p hp => q _ _ _ (t1.trans (Tr.data s1 hp)) (s1.data hp) (.lst upd_same (dpa_mono (Ex.new (fresh_b s1 hp)) da))⟩
theorem en_lst {t : TA} {dl : List PyData} (h : EvA K t ds m (dl.map SD.da) m') (hz : dl.length ≤ 1000) : EvN K (tLst t) ds m (.ls dl) m' := fun B H σ s st Q q => h B H σ s st _ fun vs B1 H1 t1 s1 d1 => by
  have da := sda_dpa d1
  have hl := dpa_len da
  exact ⟨Nat.le_of_lt (small1000 (by omega)), fun p hp => q p _ _ (t1.trans (Tr.cell s1 hp)) (s1.cell hp da)⟩
theorem en_dk : EvN K tDNewK ds m (.dk []) m := fun B H σ s st Q q p hp => q p _ _ (Tr.cell s hp) (s.cell hp True.intro)
theorem en_dt : EvN K tDNewT ds m (.dt []) m := fun B H σ s st Q q p hp => q p _ _ (Tr.cell s hp) (s.cell hp True.intro)
theorem ev_cb {rc : List V → Hp → VK → Prop} {t : TA} (h : EvA K t ds m rs m1) (hr : Rc K rc rs m1 c m') : Ev K (tCB rc t) ds m c m' := fun B H σ s st Q q =>
  h B H σ s st _ fun vs B1 H1 t1 s1 d1 => hr B1 H1 vs s1 d1 Q fun v B2 H2 t2 s2 d2 => q v B2 H2 (t1.trans t2) s2 d2
theorem en_cb {rc : List V → Hp → VK → Prop} {t : TA} {c : CD} (h : EvA K t ds m rs m1) (hr : RcN K rc rs m1 c m') : EvN K (tCB rc t) ds m c m' := fun B H σ s st Q q =>
  h B H σ s st _ fun vs B1 H1 t1 s1 d1 => hr B1 H1 vs s1 d1 Q fun v B2 H2 t2 s2 => q v B2 H2 (t1.trans t2) s2
theorem tyv_of {B H : Hp} {l : Addr} {xs : List V} (h : H l = some (.lst xs)) : tyV K "list" (.ref l) H := Or.inl ⟨rfl, _, SqL.of h⟩
/-- a method of a list, the receiver a cell -/
theorem ev_bm {rm : V → List V → Hp → VK → Prop} {to : TE} {t : TA} {l : Addr} {j : Nat} {dl : List PyData} (ho : Ev K to ds m (.rf l) m1) (hj : m1[j]? = some (l, .ls dl)) (h : EvA K t ds m1 rs m2) (hr : Rm K rm (.rf l) rs m2 c m') : Ev K (tBM K "list" rm to t) ds m c m' := fun B H σ s st Q q =>
  ho B H σ s st _ fun x B1 H1 t1 s1 d1 => by
    have e : x = .ref l := d1
    subst e
    obtain ⟨vs, h1, _⟩ := s1.ls hj
    exact ⟨tyv_of (B := B) h1, h B1 H1 σ s1 (st_mono t1.ex st) _ fun xs B2 H2 t2 s2 d2 => hr B2 H2 _ xs s2 rfl d2 Q fun v B3 H3 t3 s3 d3 => q v B3 H3 ((t1.trans t2).trans t3) s3 d3⟩
theorem ev_bm0 {rm : V → List V → Hp → VK → Prop} {to : TE} {l : Addr} {j : Nat} {dl : List PyData} (ho : Ev K to ds m (.rf l) m1) (hj : m1[j]? = some (l, .ls dl)) (hr : Rm K rm (.rf l) [] m1 c m') : Ev K (tBM0 K "list" rm to) ds m c m' := fun B H σ s st Q q =>
  ho B H σ s st _ fun x B1 H1 t1 s1 d1 => by
    have e : x = .ref l := d1
    subst e
    obtain ⟨vs, h1, _⟩ := s1.ls hj
    exact ⟨tyv_of (B := B) h1, hr B1 H1 _ [] s1 rfl True.intro Q fun v B3 H3 t3 s3 d3 => q v B3 H3 (t1.trans t3) s3 d3⟩
/-- slices -/
theorem eo_none : EvO K tNoPart ds m none m := fun B H σ s st Q q => q B H (Tr.refl _ _ _) s
theorem eo_some {i : Int} (h : Ev K te ds m (.da (.int i)) m') : EvO K (tPart te) ds m (some i) m' := fun B H σ s st Q q => h B H σ s st _ fun v B2 H2 t s2 d => by
  cases d
  exact ⟨i, rfl, q B2 H2 t s2⟩
def Rs (K : PySem.W.Frag) (r : V → Option Int → Option Int → Hp → VK → Prop) (a : SD) (lo hi : Option Int) (m : M) (c : SD) (m' : M) : Prop :=
  ∀ B H x, SOk K B m H → SdOk K B a x → ∀ Q : VK, (∀ v B2 H2, Tr B H (keys m) B2 H2 (keys m') → SOk K B2 m' H2 → SdOk K B2 c v → Q v H2) → r x lo hi H Q
theorem ev_sl {rs : V → Option Int → Option Int → Hp → VK → Prop} {tl th : TO} {lo hi : Option Int} (ha : Ev K ta ds m a m1) (hl : EvO K tl ds m1 lo m2) (hh : EvO K th ds m2 hi m3) (hr : Rs K rs a lo hi m3 c m') : Ev K (tSl rs ta tl th) ds m c m' := fun B H σ s st Q q =>
  ha B H σ s st _ fun x B1 H1 t1 s1 d1 => hl B1 H1 σ s1 (st_mono t1.ex st) _ fun B2 H2 t2 s2 => hh B2 H2 σ s2 (st_mono (t1.ex.trans t2.ex) st) _ fun B3 H3 t3 s3 => hr B3 H3 x s3 (sd_mono (t2.ex.trans t3.ex) d1) Q fun v B4 H4 t4 s4 d4 => q v B4 H4 (((t1.trans t2).trans t3).trans t4) s4 d4
end

/-! ### defs: a promise by a relation of symbolic values -/
/-- F: the arguments, the cells, what comes back with which cells -/
abbrev Pf := List SD → M → (SD → M → Prop) → Prop
def spOf (K : PySem.W.Frag) (F : Pf) : Sp := fun vs H Q _ => ∃ B as m R, F as m R ∧ SOk K B m H ∧ SdAll K B as vs ∧ ∀ v B2 H2 r m2, R r m2 → Tr B H (keys m) B2 H2 (keys m2) → SOk K B2 m2 H2 → SdOk K B2 r v → Q v H2
section
variable {K : PySem.W.Frag} {ds : List SD} {m m1 m' : M} {rs : List SD} {c : SD} {F : Pf} {E : XK} {t : TA}
/-- a call of a def that has no cells -/
theorem ev_call (h : EvA K t ds m rs m1) (hF : ∃ R, F rs [] R ∧ ∀ r m2, R r m2 → r = c ∧ m2 = []) : Ev K (tCall (spOf K F) [] E t) ds m c m1 := fun B H σ s st Q q =>
  h B H σ s st _ fun vs B1 H1 t1 s1 d1 => by
    obtain ⟨R, hR, hq⟩ := hF
    have s0 : SOk K B1 [] H1 := s1.sub (List.nil_sublist _)
    refine ⟨B1, rs, [], R, hR, s0, by rw [List.append_nil]; exact d1, fun v B2 H2 r m2 hr t2 s2 d2 => ?_⟩
    obtain ⟨rfl, rfl⟩ := hq r m2 hr
    have s1' : SOk K B1 ([] ++ m1) H1 := s1
    obtain ⟨t3, s3⟩ := fr_ok s1' t2 s2
    exact q v B2 H2 (t1.trans t3) s3 d2
/-- .. that gives a new cell -/
theorem en_call {cd : CD} (h : EvA K t ds m rs m1) (hF : ∃ R, F rs [] R ∧ ∀ r m2, R r m2 → ∃ p, r = .rf p ∧ m2 = [(p, cd)]) (hm : m1 = []) : EvN K (tCall (spOf K F) [] E t) ds m cd [] := fun B H σ s st Q q =>
  h B H σ s st _ fun vs B1 H1 t1 s1 d1 => by
    obtain ⟨R, hR, hq⟩ := hF
    subst hm
    refine ⟨B1, rs, [], R, hR, s1, by rw [List.append_nil]; exact d1, fun v B2 H2 r m2 hr t2 s2 d2 => ?_⟩
    obtain ⟨p, rfl, rfl⟩ := hq r m2 hr
    have e : v = .ref p := d2
    subst e
    exact q p B2 H2 (t1.trans t2) s2
theorem move : ∀ {m : M} {j : Nat} {x : Addr × CD}, m[j]? = some x → ([x] ++ m.eraseIdx j).Perm m
  | [], _, _, h => by simp at h
  | a :: r, 0, x, h => by
    have e : a = x := Option.some.inj h
    rw [e]
    exact List.Perm.refl _
  | a :: r, j + 1, x, h => (List.Perm.swap a x _).trans (List.Perm.cons a (move (m := r) (j := j) h))
theorem SOk.perm {B H : Hp} {m m2 : M} (s : SOk K B m H) (p : m2.Perm m) : SOk K B m2 H := ⟨s.ext, (p.map _).nodup_iff.mpr s.nd, fun q hq => s.out q (p.mem_iff.mp hq), fun q hq => s.cel q (p.mem_iff.mp hq)⟩
theorem Tr.perm {B H B2 H2 : Hp} {k k2 k' k2' : List Addr} (t : Tr B H k B2 H2 k') (p : ∀ a, a ∈ k ↔ a ∈ k2) (p' : ∀ a, a ∈ k' ↔ a ∈ k2') : Tr B H k2 B2 H2 k2' := ⟨t.ex, t.new, t.tp, fun a o h e => t.keep a o (fun z => h ((p a).mp z)) e, fun a z => (t.kys a ((p' a).mpr z)).imp (p a).mp id, t.grow⟩
theorem set_perm {m : M} {j : Nat} {x y : Addr × CD} (hj : m[j]? = some x) : ([y] ++ m.eraseIdx j).Perm (m.set j y) := by
  have h1 : (m.set j y)[j]? = some y := by
    obtain ⟨h1, h2⟩ := List.getElem?_eq_some_iff.mp hj
    rw [List.getElem?_set_self h1]
  have h2 := move h1
  rw [List.eraseIdx_set_eq] at h2
  exact h2
/-- a call of a def that has one cell, here at j -/
theorem ev_call1 {l : Addr} {cd cd' : CD} (j : Nat) (h : EvA K t ds m rs m1) (hj : m1[j]? = some (l, cd)) (hF : ∃ R, F rs [(l, cd)] R ∧ ∀ r m2, R r m2 → r = c ∧ m2 = [(l, cd')]) : Ev K (tCall (spOf K F) [] E t) ds m c (m1.set j (l, cd')) := fun B H σ s st Q q =>
  h B H σ s st _ fun vs B1 H1 t1 s1 d1 => by
    obtain ⟨R, hR, hq⟩ := hF
    have s1' : SOk K B1 ([(l, cd)] ++ m1.eraseIdx j) H1 := s1.perm (move hj)
    refine ⟨B1, rs, [(l, cd)], R, hR, s1'.sub (List.sublist_append_left _ _), by rw [List.append_nil]; exact d1, fun v B2 H2 r m2 hr t2 s2 d2 => ?_⟩
    obtain ⟨rfl, rfl⟩ := hq r m2 hr
    obtain ⟨t3, s3⟩ := fr_ok s1' t2 s2
    have p1 : ∀ a, a ∈ keys ([(l, cd)] ++ m1.eraseIdx j) ↔ a ∈ keys m1 := fun a => ((move hj).map Prod.fst).mem_iff
    have p2 : ∀ a, a ∈ keys ([(l, cd')] ++ m1.eraseIdx j) ↔ a ∈ keys (m1.set j (l, cd')) := fun a => ((set_perm (y := (l, cd')) hj).map Prod.fst).mem_iff
    exact q v B2 H2 (t1.trans (t3.perm p1 p2)) (s3.perm (set_perm hj).symm) d2
end
end FC
set_option maxHeartbeats 4000000
/-! FR: encodings of Lean values as data; what the operations are in Lean (none: a side condition of the model fails); their rules. -/
namespace FC
open PySem PySem.Spec PyProof.Rows L2 Evl

/-! ### encodings -/
section
variable {α β γ δ : Type}
def dI (i : Int) : PyData := .int i
def dB (b : Bool) : PyData := .bool b
def dS (s : Str) : PyData := .str s
def dN (_ : Unit) : PyData := .none
def dL (f : α → PyData) (xs : List α) : PyData := .list (xs.map f)
def dU (f : α → PyData) (xs : List α) : PyData := .tuple (xs.map f)
def dP (f : α → PyData) (g : β → PyData) (p : α × β) : PyData := .tuple [f p.1, g p.2]
def d3 (f : α → PyData) (g : β → PyData) (h : γ → PyData) (p : α × β × γ) : PyData := .tuple [f p.1, g p.2.1, h p.2.2]
def d4 (f : α → PyData) (g : β → PyData) (h : γ → PyData) (i : δ → PyData) (p : α × β × γ × δ) : PyData := .tuple [f p.1, g p.2.1, h p.2.2.1, i p.2.2.2]
def dO (f : α → PyData) : Option α → PyData
  | none => .none
  | some a => f a
end

/-! ### what is equal, what is less -/
class Enc {α : Type} [DecidableEq α] (f : α → PyData) where
  plain : ∀ a, (f a).plain = true
  eqv : ∀ a b, PyData.eqv (f a) (f b) = decide (a = b)
  dep : Nat
  dep_le : ∀ a, (f a).depth ≤ dep
class EncO {α : Type} [DecidableEq α] (f : α → PyData) extends Enc f where
  lt : α → α → Bool
  alike : ∀ a b, PySem.W.alike (f a) (f b) = true
  notNone : ∀ a, f a ≠ .none
  lt_eq : ∀ a b, PySem.W.dataLt (f a) (f b) = lt a b

section
variable {α β γ : Type} [DecidableEq α] [DecidableEq β] [DecidableEq γ] (f : α → PyData) (g : β → PyData) (h : γ → PyData)
theorem beq_dec {α : Type} [BEq α] [LawfulBEq α] [DecidableEq α] (a b : α) : (a == b) = decide (a = b) := by
  rw [Bool.eq_iff_iff, beq_iff_eq, decide_eq_true_eq]
instance : Enc dI where
  plain _ := rfl
  eqv a b := by show PyData.eqv (.int a) (.int b) = _; simp only [PyData.eqv]; exact beq_dec a b
  dep := 0
  dep_le _ := Nat.le_refl _
instance : Enc dB where
  plain _ := rfl
  eqv a b := by show PyData.eqv (.bool a) (.bool b) = _; simp only [PyData.eqv]; exact beq_dec a b
  dep := 0
  dep_le _ := Nat.le_refl _
instance : Enc dS where
  plain _ := rfl
  eqv a b := by show PyData.eqv (.str a) (.str b) = _; simp only [PyData.eqv]; exact beq_dec a b
  dep := 0
  dep_le _ := Nat.le_refl _
instance : Enc dN where
  plain _ := rfl
  eqv a b := by show PyData.eqv .none .none = _; simp only [PyData.eqv]; rfl
  dep := 0
  dep_le _ := Nat.le_refl _
theorem plainAll_enc [Enc f] : ∀ xs : List α, PyData.plainAll (xs.map f) = true
  | [] => rfl
  | x :: xs => by
    rw [List.map_cons, PyData.plainAll, Enc.plain x, plainAll_enc xs]
    rfl
theorem depthAll_enc [Enc f] : ∀ xs : List α, PyData.depthAll (xs.map f) ≤ Enc.dep f
  | [] => Nat.zero_le _
  | x :: xs => by
    rw [List.map_cons, PyData.depthAll]
    exact Nat.max_le.mpr ⟨Enc.dep_le x, depthAll_enc xs⟩
theorem eqvAll_enc [Enc f] : ∀ xs ys : List α, PyData.eqvAll (xs.map f) (ys.map f) = decide (xs = ys)
  | [], [] => by simp only [List.map_nil, PyData.eqvAll, decide_true]
  | [], _ :: _ => by simp [PyData.eqvAll]
  | _ :: _, [] => by simp [PyData.eqvAll]
  | x :: xs, y :: ys => by
    rw [List.map_cons, List.map_cons, PyData.eqvAll, Enc.eqv x y, eqvAll_enc xs ys, ← Bool.decide_and]
    exact decide_eq_decide.mpr (by rw [List.cons.injEq])
instance [Enc f] : Enc (dL f) where
  plain xs := by show (PyData.list _).plain = true; simp only [PyData.plain]; exact plainAll_enc f xs
  eqv xs ys := by show PyData.eqv (.list _) (.list _) = _; simp only [PyData.eqv]; exact eqvAll_enc f xs ys
  dep := Enc.dep f + 1
  dep_le xs := by show (PyData.list _).depth ≤ _; simp only [PyData.depth]; exact Nat.succ_le_succ (depthAll_enc f xs)
instance [Enc f] : Enc (dU f) where
  plain xs := by show (PyData.tuple _).plain = true; simp only [PyData.plain]; exact plainAll_enc f xs
  eqv xs ys := by show PyData.eqv (.tuple _) (.tuple _) = _; simp only [PyData.eqv]; exact eqvAll_enc f xs ys
  dep := Enc.dep f + 1
  dep_le xs := by show (PyData.tuple _).depth ≤ _; simp only [PyData.depth]; exact Nat.succ_le_succ (depthAll_enc f xs)
instance [Enc f] [Enc g] : Enc (dP f g) where
  plain p := by show (PyData.tuple _).plain = true; simp only [PyData.plain, PyData.plainAll, Enc.plain, Bool.and_self]
  eqv p q := by
    show PyData.eqv (.tuple _) (.tuple _) = _
    simp only [PyData.eqv, PyData.eqvAll]
    rw [Enc.eqv, Enc.eqv, Bool.and_true, ← Bool.decide_and]
    exact decide_eq_decide.mpr ⟨fun e => Prod.ext e.1 e.2, fun e => by rw [e]; exact ⟨rfl, rfl⟩⟩
  dep := max (Enc.dep f) (Enc.dep g) + 1
  dep_le p := by
    show (PyData.tuple _).depth ≤ _
    simp only [PyData.depth, PyData.depthAll]
    have h1 := Enc.dep_le (f := f) p.1
    have h2 := Enc.dep_le (f := g) p.2
    omega
instance [Enc f] [Enc g] [Enc h] : Enc (d3 f g h) where
  plain p := by show (PyData.tuple _).plain = true; simp only [PyData.plain, PyData.plainAll, Enc.plain, Bool.and_self]
  eqv p q := by
    show PyData.eqv (.tuple _) (.tuple _) = _
    simp only [PyData.eqv, PyData.eqvAll]
    rw [Enc.eqv, Enc.eqv, Enc.eqv, Bool.and_true, ← Bool.decide_and, ← Bool.decide_and]
    exact decide_eq_decide.mpr ⟨fun e => Prod.ext e.1 (Prod.ext e.2.1 e.2.2), fun e => by rw [e]; exact ⟨rfl, rfl, rfl⟩⟩
  dep := max (Enc.dep f) (max (Enc.dep g) (Enc.dep h)) + 1
  dep_le p := by
    show (PyData.tuple _).depth ≤ _
    simp only [PyData.depth, PyData.depthAll]
    have h1 := Enc.dep_le (f := f) p.1
    have h2 := Enc.dep_le (f := g) p.2.1
    have h3 := Enc.dep_le (f := h) p.2.2
    omega

/-- the first difference decides, else the shorter is the less -/
def ltL (lt : α → α → Bool) : List α → List α → Bool
  | [], [] => false
  | [], _ :: _ => true
  | _ :: _, [] => false
  | x :: xs, y :: ys => if x = y then ltL lt xs ys else lt x y
def ltP (lt : α → α → Bool) (lt2 : β → β → Bool) (p q : α × β) : Bool := if p.1 = q.1 then lt2 p.2 q.2 else lt p.1 q.1
def lt3 (lt : α → α → Bool) (lt2 : β → β → Bool) (ltt : γ → γ → Bool) (p q : α × β × γ) : Bool := if p.1 = q.1 then (if p.2.1 = q.2.1 then ltt p.2.2 q.2.2 else lt2 p.2.1 q.2.1) else lt p.1 q.1
def ltI (a b : Int) : Bool := decide (a < b)
def ltS (a b : Str) : Bool := decide (a.cps.toList < b.cps.toList)
instance : EncO dI where
  lt := ltI
  alike a b := by show PySem.W.alike (.int a) (.int b) = true; simp only [PySem.W.alike]
  notNone a := fun e => by cases e
  lt_eq a b := PySem.W.dataLt_int a b
instance : EncO dS where
  lt := ltS
  alike a b := by show PySem.W.alike (.str a) (.str b) = true; simp only [PySem.W.alike]
  notNone a := fun e => by cases e
  lt_eq a b := PySem.W.dataLt_str a b
theorem alikeAll_enc [EncO f] : ∀ xs ys : List α, PySem.W.alikeAll (xs.map f) (ys.map f) = true
  | [], _ => by rw [List.map_nil, PySem.W.alikeAll]
  | _ :: _, [] => by rw [List.map_nil, List.map_cons, PySem.W.alikeAll]
  | x :: xs, y :: ys => by
    rw [List.map_cons, List.map_cons, PySem.W.alikeAll, EncO.alike x y, alikeAll_enc xs ys]
    rfl
theorem lexAll_enc [EncO f] : ∀ xs ys : List α, PyProof.Rows.lexLt itemOrd (PySem.W.keyToksAll (xs.map f)) (PySem.W.keyToksAll (ys.map f)) = ltL (EncO.lt f) xs ys
  | [], [] => lex_irrefl _
  | [], y :: ys => by
    rw [List.map_nil, List.map_cons, PySem.W.toks_all_cons]
    simp only [PySem.W.keyToksAll]
    rw [lex_diff (O := itemOrd) (by simp)]
    rfl
  | x :: xs, [] => by
    rw [List.map_nil, List.map_cons, PySem.W.toks_all_cons]
    simp only [PySem.W.keyToksAll]
    rw [lex_diff (O := itemOrd) (by simp)]
    rfl
  | x :: xs, y :: ys => by
    rw [List.map_cons, List.map_cons, ltL]
    by_cases h : x = y
    · rw [if_pos h, PySem.W.dataLt_all_yes (EncO.alike x y) (by rw [Enc.eqv, decide_eq_true_eq]; exact h), lexAll_enc xs ys]
    · rw [if_neg h, PySem.W.dataLt_all_no (EncO.alike x y) (by rw [Enc.eqv, decide_eq_false_iff_not]; exact h)]
      exact EncO.lt_eq x y
instance [EncO f] : EncO (dL f) where
  lt := ltL (EncO.lt f)
  alike xs ys := by show PySem.W.alike (.list _) (.list _) = true; simp only [PySem.W.alike]; exact alikeAll_enc f xs ys
  notNone a := fun e => by cases e
  lt_eq xs ys := (PySem.W.dataLt_list _ _).trans (lexAll_enc f xs ys)
instance [EncO f] : EncO (dU f) where
  lt := ltL (EncO.lt f)
  alike xs ys := by show PySem.W.alike (.tuple _) (.tuple _) = true; simp only [PySem.W.alike]; exact alikeAll_enc f xs ys
  notNone a := fun e => by cases e
  lt_eq xs ys := (PySem.W.dataLt_tuple _ _).trans (lexAll_enc f xs ys)
theorem dataLt_self (d : PyData) : PySem.W.dataLt d d = false := lex_irrefl _
instance [EncO f] [EncO g] : EncO (dP f g) where
  lt := ltP (EncO.lt f) (EncO.lt g)
  alike p q := by
    show PySem.W.alike (.tuple [_, _]) (.tuple [_, _]) = true
    simp only [PySem.W.alike, PySem.W.alikeAll, EncO.alike, Bool.and_self]
  notNone a := fun e => by cases e
  lt_eq p q := by
    refine (PySem.W.dataLt_tuple _ _).trans ?_
    show _ = ltP _ _ p q
    unfold ltP
    by_cases h : p.1 = q.1
    · rw [if_pos h, PySem.W.dataLt_all_yes (EncO.alike p.1 q.1) (by rw [Enc.eqv, decide_eq_true_eq]; exact h)]
      by_cases h2 : p.2 = q.2
      · rw [PySem.W.dataLt_all_yes (EncO.alike p.2 q.2) (by rw [Enc.eqv, decide_eq_true_eq]; exact h2), lex_irrefl, h2]
        exact ((dataLt_self _).symm.trans (EncO.lt_eq q.2 q.2))
      · rw [PySem.W.dataLt_all_no (EncO.alike p.2 q.2) (by rw [Enc.eqv, decide_eq_false_iff_not]; exact h2)]
        exact EncO.lt_eq p.2 q.2
    · rw [if_neg h, PySem.W.dataLt_all_no (EncO.alike p.1 q.1) (by rw [Enc.eqv, decide_eq_false_iff_not]; exact h)]
      exact EncO.lt_eq p.1 q.1
end

/-! ### operations in Lean -/
section
variable {α β : Type}
def MulOk (i j : Int) : Prop := CMul i j ∨ CMulW i j
instance (i j : Int) : Decidable (MulOk i j) := by unfold MulOk CMul CMulW; infer_instance
instance (i j : Int) : Decidable (CPow i j) := by unfold CPow; infer_instance
instance (i j : Int) : Decidable (CDiv i j) := by unfold CDiv; infer_instance
instance (i j : Int) : Decidable (CDivW i j) := by unfold CDivW; infer_instance
def mulG (i j : Int) : Option Int := if MulOk i j then some (i * j) else none
def fdivG (i j : Int) : Option Int := if CDiv i j ∨ CDivW i j then some (i / j) else none
def modG (i j : Int) : Option Int := if 0 < j then some (i % j) else none
def lenG (n : Nat) : Option Unit := if n ≤ 16000000 then some () else none
def getI (xs : List α) (i : Int) : Option α := atI xs i
def setI (xs : List α) (i : Int) (x : α) : Option (List α) := (ixN xs.length i).map fun j => xs.set j x
def cutI (xs : List α) (lo hi : Option Int) : List α := (xs.drop (HT.sIx xs.length 0 lo)).take (HT.sIx xs.length xs.length hi - HT.sIx xs.length 0 lo)
def absI (i : Int) : Int := if i < 0 then -i else i
def b2 (b : Bool) : Int := if b then 1 else 0
def max2 (i j : Int) : Int := if j > i then j else i
def min2 (i j : Int) : Int := if j < i then j else i
def minL (lt : α → α → Bool) : List α → Option α
  | [] => none
  | x :: xs => some (xs.foldl (fun a y => if lt y a = true then y else a) x)
def maxL (lt : α → α → Bool) : List α → Option α
  | [] => none
  | x :: xs => some (xs.foldl (fun a y => if lt a y = true then y else a) x)
def srt (lt : α → α → Bool) (xs : List α) : List α := xs.mergeSort fun a b => !lt b a
def rng (a b : Int) : List Int := (List.range (b - a).toNat).map fun (i : Nat) => a + (i : Int)
def rngG (a b : Int) : Option (List Int) := if -(2 ^ 62) ≤ a ∧ a < 2 ^ 62 ∧ -(2 ^ 62) ≤ b ∧ b < 2 ^ 62 then some (rng a b) else none
theorem bindS {o : Option α} {f : α → Option β} {b : β} (h : o.bind f = some b) : ∃ a, o = some a ∧ f a = some b := by
  cases o with
  | none => cases h
  | some a => exact ⟨a, rfl, h⟩
theorem mulG_some {i j k : Int} (h : mulG i j = some k) : MulOk i j ∧ i * j = k := by
  unfold mulG at h
  split at h
  · exact ⟨by assumption, Option.some.inj h⟩
  · cases h
theorem fdivG_some {i j k : Int} (h : fdivG i j = some k) : (CDiv i j ∨ CDivW i j) ∧ i / j = k := by
  unfold fdivG at h
  split at h
  · exact ⟨by assumption, Option.some.inj h⟩
  · cases h
theorem modG_some {i j k : Int} (h : modG i j = some k) : 0 < j ∧ i % j = k := by
  unfold modG at h
  split at h
  · exact ⟨by assumption, Option.some.inj h⟩
  · cases h
theorem lenG_some {n : Nat} {u : Unit} (h : lenG n = some u) : n ≤ 16000000 := by
  unfold lenG at h
  split at h
  · assumption
  · cases h
theorem rngG_some {a b : Int} {l : List Int} (h : rngG a b = some l) : (-(2 ^ 62) ≤ a ∧ a < 2 ^ 62 ∧ -(2 ^ 62) ≤ b ∧ b < 2 ^ 62) ∧ rng a b = l := by
  unfold rngG at h
  split at h
  · exact ⟨by assumption, Option.some.inj h⟩
  · cases h
theorem atI_map {f : α → β} {xs : List α} {i : Int} {x : α} (h : atI xs i = some x) : atI (xs.map f) i = some (f x) := by
  unfold atI at h ⊢
  rw [List.length_map]
  cases e : ixN xs.length i with
  | none =>
    rw [e] at h
    cases h
  | some j =>
    rw [e] at h
    show (xs.map f)[j]? = some (f x)
    rw [List.getElem?_map, show xs[j]? = some x from h]
    rfl
end

/-! ### rules by values -/
section
variable {K : PySem.W.Frag} {B H : Hp} {m m1 m' : M} {a b c : SD} {α β : Type}
/-- a rule that leaves the heap as it is -/
theorem Rr.of {r : R2} (h : ∀ B H x y, SOk K B m H → SdOk K B a x → SdOk K B b y → ∀ Q : VK, (∀ v, SdOk K B c v → Q v H) → r x y H Q) : Rr K r a b m c m := fun B H x y s dx dy Q q =>
  h B H x y s dx dy Q fun v d => q v B H (Tr.refl _ _ _) s d
theorem Ru.of {r : V → Hp → VK → Prop} (h : ∀ B H x, SOk K B m H → SdOk K B a x → ∀ Q : VK, (∀ v, SdOk K B c v → Q v H) → r x H Q) : Ru K r a m c m := fun B H x s dx Q q =>
  h B H x s dx Q fun v d => q v B H (Tr.refl _ _ _) s d
theorem Rc.of {r : List V → Hp → VK → Prop} {as : List SD} (h : ∀ B H xs, SOk K B m H → SdAll K B as xs → ∀ Q : VK, (∀ v, SdOk K B c v → Q v H) → r xs H Q) : Rc K r as m c m := fun B H x s dx Q q =>
  h B H x s dx Q fun v d => q v B H (Tr.refl _ _ _) s d
theorem int_of {i : Int} {v : V} (h : SdOk K B (.da (dI i)) v) : v = .int i := by
  have h' : Dq B v (.int i) := h
  cases h'
  rfl
theorem bl_of {i : Bool} {v : V} (h : SdOk K B (.da (dB i)) v) : v = .bl i := by
  have h' : Dq B v (.bool i) := h
  cases h'
  rfl
theorem str_of {i : Str} {v : V} (h : SdOk K B (.da (dS i)) v) : v = .str i := by
  have h' : Dq B v (.str i) := h
  cases h'
  rfl
theorem non_of {v : V} (h : SdOk K B (.da .none) v) : v = .non := by
  have h' : Dq B v .none := h
  cases h'
  rfl
theorem lst_of {f : α → PyData} {xs : List α} {v : V} (h : SdOk K B (.da (dL f xs)) v) : ∃ p vs, v = .ref p ∧ B p = some (.lst vs) ∧ DqAll B vs (xs.map f) := by
  have h' : Dq B v (.list (xs.map f)) := h
  cases h' with
  | lst h1 h2 => exact ⟨_, _, rfl, h1, h2⟩
theorem tup_of {f : α → PyData} {xs : List α} {v : V} (h : SdOk K B (.da (dU f xs)) v) : ∃ p vs, v = .ref p ∧ B p = some (.tup vs) ∧ DqAll B vs (xs.map f) := by
  have h' : Dq B v (.tuple (xs.map f)) := h
  cases h' with
  | tup h1 h2 => exact ⟨_, _, rfl, h1, h2⟩
theorem pair_of {f : α → PyData} {g : β → PyData} {p : α × β} {v : V} (h : SdOk K B (.da (dP f g p)) v) : ∃ q x y, v = .ref q ∧ B q = some (.tup [x, y]) ∧ Dq B x (f p.1) ∧ Dq B y (g p.2) := by
  have h' : Dq B v (.tuple [f p.1, g p.2]) := h
  cases h' with
  | tup h1 h2 =>
    cases h2 with
    | cons a1 t =>
      cases t with
      | cons a2 t =>
        cases t
        exact ⟨_, _, _, rfl, h1, a1, a2⟩
theorem dq_tuple {dl : List PyData} {v : V} (h : SdOk K B (.da (.tuple dl)) v) : ∃ p vs, v = .ref p ∧ B p = some (.tup vs) ∧ DqAll B vs dl := by
  have h' : Dq B v (.tuple dl) := h
  cases h' with
  | tup h1 h2 => exact ⟨_, _, rfl, h1, h2⟩
theorem dqa_get : ∀ {vs : List V} {dl : List PyData} {i : Nat} {d : PyData}, DqAll B vs dl → dl[i]? = some d → ∃ v, vs[i]? = some v ∧ Dq B v d
  | _, _, _, _, .nil, h => by simp at h
  | _, _, 0, d, .cons h _, e => by
    have e' := Option.some.inj e
    subst e'
    exact ⟨_, rfl, h⟩
  | _, _, i + 1, d, .cons _ t, e => dqa_get (i := i) t e
theorem dqa_at {vs : List V} {dl : List PyData} {i : Int} {d : PyData} (h : DqAll B vs dl) (e : atI dl i = some d) : ∃ v, atI vs i = some v ∧ Dq B v d := by
  unfold atI at e ⊢
  rw [dpa_len h]
  cases q : ixN dl.length i with
  | none =>
    rw [q] at e
    cases e
  | some j =>
    rw [q] at e
    exact dqa_get h e
theorem dqa_set : ∀ {vs : List V} {dl : List PyData} (j : Nat) {v : V} {d : PyData}, DqAll B vs dl → Dq B v d → DqAll B (vs.set j v) (dl.set j d)
  | _, _, _, _, _, .nil, _ => .nil
  | _, _, 0, _, _, .cons _ t, q => .cons q t
  | _, _, j + 1, _, _, .cons h t, q => .cons h (dqa_set j t q)
theorem dqa_app : ∀ {vs ws : List V} {dl el : List PyData}, DqAll B vs dl → DqAll B ws el → DqAll B (vs ++ ws) (dl ++ el)
  | _, _, _, _, .nil, q => q
  | _, _, _, _, .cons h t, q => .cons h (dqa_app t q)
theorem dqa_take : ∀ {vs : List V} {dl : List PyData} (n : Nat), DqAll B vs dl → DqAll B (vs.take n) (dl.take n)
  | _, _, 0, _ => .nil
  | _, _, n + 1, .nil => .nil
  | _, _, n + 1, .cons h t => .cons h (dqa_take n t)
theorem dqa_drop : ∀ {vs : List V} {dl : List PyData} (n : Nat), DqAll B vs dl → DqAll B (vs.drop n) (dl.drop n)
  | _, _, 0, h => h
  | _, _, n + 1, .nil => .nil
  | _, _, n + 1, .cons h t => dqa_drop n t
theorem dqa_ints : ∀ {vs : List V} {ns : List Int}, DqAll B vs (ns.map dI) → vs = ns.map V.int
  | _, [], .nil => rfl
  | _, n :: ns, .cons h t => by
    have e := int_of (K := default) h
    rw [e, dqa_ints t]
    rfl
theorem ints_dqa : ∀ (ns : List Int), DqAll B (ns.map V.int) (ns.map dI)
  | [] => .nil
  | n :: ns => .cons (.int n) (ints_dqa ns)
theorem dqa_bools : ∀ {vs : List V} {ns : List Bool}, DqAll B vs (ns.map dB) → vs = ns.map V.bl
  | _, [], .nil => rfl
  | _, n :: ns, .cons h t => by
    have e := bl_of (K := default) h
    rw [e, dqa_bools t]
    rfl
theorem dqa_strs : ∀ {vs : List V} {ns : List Str}, DqAll B vs (ns.map dS) → vs = ns.map V.str
  | _, [], .nil => rfl
  | _, n :: ns, .cons h t => by
    have e := str_of (K := default) h
    rw [e, dqa_strs t]
    rfl

/-! arithmetic -/
theorem rr_i {f : Int → Int → Int} {i j : Int} : Rr K (rI0 fun i j => .int (f i j)) (.da (dI i)) (.da (dI j)) m (.da (dI (f i j))) m := Rr.of fun B H x y s dx dy Q q => ⟨i, j, int_of dx, int_of dy, q _ (.int _)⟩
theorem rr_b {f : Int → Int → Bool} {i j : Int} : Rr K (rI0 fun i j => .bl (f i j)) (.da (dI i)) (.da (dI j)) m (.da (dB (f i j))) m := Rr.of fun B H x y s dx dy Q q => ⟨i, j, int_of dx, int_of dy, q _ (.bl _)⟩
theorem rr_c {C : Int → Int → Prop} {f : Int → Int → Int} {i j k : Int} (h : C i j) (e : f i j = k) : Rr K (rI C fun i j => .int (f i j)) (.da (dI i)) (.da (dI j)) m (.da (dI k)) m := Rr.of fun B H x y s dx dy Q q => ⟨i, j, int_of dx, int_of dy, h, by
  show Q (.int (f i j)) H
  rw [e]
  exact q _ (.int _)⟩
def rMulA : R2 := fun x y H Q => rI CMul (fun i j => .int (i * j)) x y H Q ∨ rI CMulW (fun i j => .int (i * j)) x y H Q
def rDivA : R2 := fun x y H Q => rI CDiv (fun i j => .int (i / j)) x y H Q ∨ rI CDivW (fun i j => .int (i / j)) x y H Q
theorem op_mulA {X : Cx} : OpR X (binaryOp .Mult) rMulA := OpR.or op_mul op_mulW
theorem op_divA {X : Cx} : OpR X (binaryOp .FloorDiv) rDivA := OpR.or op_fdiv op_fdivW
theorem rr_mul {i j k : Int} (h : mulG i j = some k) : Rr K rMulA (.da (dI i)) (.da (dI j)) m (.da (dI k)) m := Rr.of fun B H x y s dx dy Q q => by
  obtain ⟨h1 | h1, h2⟩ := mulG_some h
  · exact Or.inl ⟨i, j, int_of dx, int_of dy, h1, by subst h2; exact q _ (.int _)⟩
  · exact Or.inr ⟨i, j, int_of dx, int_of dy, h1, by subst h2; exact q _ (.int _)⟩
theorem rr_div {i j k : Int} (h : fdivG i j = some k) : Rr K rDivA (.da (dI i)) (.da (dI j)) m (.da (dI k)) m := Rr.of fun B H x y s dx dy Q q => by
  obtain ⟨h1 | h1, h2⟩ := fdivG_some h
  · exact Or.inl ⟨i, j, int_of dx, int_of dy, h1, by subst h2; exact q _ (.int _)⟩
  · exact Or.inr ⟨i, j, int_of dx, int_of dy, h1, by subst h2; exact q _ (.int _)⟩
theorem rr_mod {i j k : Int} (h : modG i j = some k) : Rr K (rI (fun _ j => 0 < j) fun i j => .int (i % j)) (.da (dI i)) (.da (dI j)) m (.da (dI k)) m := rr_c (f := fun i j => i % j) (modG_some h).1 (modG_some h).2
theorem ru_neg {i : Int} : Ru K (rU fun i => .int (-i)) (.da (dI i)) m (.da (dI (-i))) m := Ru.of fun B H x s dx Q q => ⟨i, int_of dx, q _ (.int _)⟩
/-! scalars -/
theorem rr_eqI {i j : Int} : Rr K rEq (.da (dI i)) (.da (dI j)) m (.da (dB (decide (i = j)))) m := Rr.of fun B H x y s dx dy Q q => by
  rw [int_of dx, int_of dy]
  refine ⟨rfl, ?_⟩
  rw [decide_eq_decide.mpr (show V.int i = V.int j ↔ i = j from ⟨fun e => V.int.inj e, fun e => by rw [e]⟩)]
  exact q _ (.bl _)
theorem rr_neI {i j : Int} : Rr K rNe (.da (dI i)) (.da (dI j)) m (.da (dB (!decide (i = j)))) m := Rr.of fun B H x y s dx dy Q q => by
  rw [int_of dx, int_of dy]
  refine ⟨rfl, ?_⟩
  rw [decide_eq_decide.mpr (show V.int i = V.int j ↔ i = j from ⟨fun e => V.int.inj e, fun e => by rw [e]⟩)]
  exact q _ (.bl _)
theorem rr_eqB {i j : Bool} : Rr K rEq (.da (dB i)) (.da (dB j)) m (.da (dB (decide (i = j)))) m := Rr.of fun B H x y s dx dy Q q => by
  rw [bl_of dx, bl_of dy]
  refine ⟨rfl, ?_⟩
  rw [decide_eq_decide.mpr (show V.bl i = V.bl j ↔ i = j from ⟨fun e => V.bl.inj e, fun e => by rw [e]⟩)]
  exact q _ (.bl _)
theorem rr_neB {i j : Bool} : Rr K rNe (.da (dB i)) (.da (dB j)) m (.da (dB (!decide (i = j)))) m := Rr.of fun B H x y s dx dy Q q => by
  rw [bl_of dx, bl_of dy]
  refine ⟨rfl, ?_⟩
  rw [decide_eq_decide.mpr (show V.bl i = V.bl j ↔ i = j from ⟨fun e => V.bl.inj e, fun e => by rw [e]⟩)]
  exact q _ (.bl _)
theorem rr_eqS {i j : Str} : Rr K rEq (.da (dS i)) (.da (dS j)) m (.da (dB (decide (i = j)))) m := Rr.of fun B H x y s dx dy Q q => by
  rw [str_of dx, str_of dy]
  refine ⟨rfl, ?_⟩
  rw [decide_eq_decide.mpr (show V.str i = V.str j ↔ i = j from ⟨fun e => V.str.inj e, fun e => by rw [e]⟩)]
  exact q _ (.bl _)
theorem rr_neS {i j : Str} : Rr K rNe (.da (dS i)) (.da (dS j)) m (.da (dB (!decide (i = j)))) m := Rr.of fun B H x y s dx dy Q q => by
  rw [str_of dx, str_of dy]
  refine ⟨rfl, ?_⟩
  rw [decide_eq_decide.mpr (show V.str i = V.str j ↔ i = j from ⟨fun e => V.str.inj e, fun e => by rw [e]⟩)]
  exact q _ (.bl _)
/-- what is None -/
def rIsNo : R2 := fun x y H Q => y = .non ∧ Q (.bl (decide (x = .non))) H
def rNotNo : R2 := fun x y H Q => y = .non ∧ Q (.bl (!decide (x = .non))) H
theorem op_isNo {X : Cx} : OpR X (compareOp .Is) rIsNo := op_isN
theorem op_notNo {X : Cx} : OpR X (compareOp .IsNot) rNotNo := op_notN
class NotNo (f : α → PyData) : Prop where
  no : ∀ a, f a ≠ .none
instance : NotNo dI := ⟨fun _ h => by cases h⟩
instance : NotNo dB := ⟨fun _ h => by cases h⟩
instance : NotNo dS := ⟨fun _ h => by cases h⟩
instance {f : α → PyData} : NotNo (dL f) := ⟨fun _ h => by cases h⟩
instance {f : α → PyData} : NotNo (dU f) := ⟨fun _ h => by cases h⟩
instance {f : α → PyData} {g : β → PyData} : NotNo (dP f g) := ⟨fun _ h => by cases h⟩
instance {γ : Type} {f : α → PyData} {g : β → PyData} {h : γ → PyData} : NotNo (d3 f g h) := ⟨fun _ h => by cases h⟩
theorem dO_non {f : α → PyData} [NotNo f] {o : Option α} {v : V} (h : Dq B v (dO f o)) : decide (v = .non) = o.isNone := by
  cases o with
  | none =>
    have h' : Dq B v .none := h
    cases h'
    rfl
  | some a =>
    have h' : Dq B v (f a) := h
    have hn := NotNo.no (f := f) a
    cases v with
    | non =>
      generalize f a = d at h' hn
      cases h'
      exact absurd rfl hn
    | _ => rfl
theorem rr_isNo {f : α → PyData} [NotNo f] {o : Option α} : Rr K rIsNo (.da (dO f o)) (.da .none) m (.da (dB o.isNone)) m := Rr.of fun B H x y s dx dy Q q => ⟨non_of dy, by
  rw [dO_non dx]
  exact q _ (.bl _)⟩
theorem rr_notNo {f : α → PyData} [NotNo f] {o : Option α} : Rr K rNotNo (.da (dO f o)) (.da .none) m (.da (dB o.isSome)) m := Rr.of fun B H x y s dx dy Q q => ⟨non_of dy, by
  rw [dO_non dx]
  have : (!o.isNone) = o.isSome := by cases o <;> rfl
  rw [this]
  exact q _ (.bl _)⟩
end

/-! ### data compared: own rules of the machine -/
section
variable {X : Cx}
def rEqP (K : PySem.W.Frag) : R2 := fun x y H Q => ∃ d e, Dp K H x d ∧ Dp K H y e ∧ d.plain = true ∧ e.plain = true ∧ d.depth ≤ 60 ∧ Q (.bl (PyData.eqv d e)) H
def rNeP (K : PySem.W.Frag) : R2 := fun x y H Q => ∃ d e, Dp K H x d ∧ Dp K H y e ∧ d.plain = true ∧ e.plain = true ∧ d.depth ≤ 60 ∧ Q (.bl (!PyData.eqv d e)) H
theorem room_min {u a b : Nat} (h : a ≤ 60) (hu : u + 64 < cLine) : u + min a b < cLine := by
  have := Nat.min_le_left a b
  omega
theorem op_eqP (hu : X.A.units + 64 < cLine) : OpR X (compareOp .Eq) (rEqP X.K) := by
  intro pins s σ H x y v u Q I rx ry h
  obtain ⟨d, e, hd, he, sd, se, hdp, q⟩ := h
  obtain ⟨as, r1⟩ := Dp.reads I d x v hd rx
  obtain ⟨bs, r2⟩ := Dp.reads I e y u he ry
  exact PySem.SeqAt.eq_plain r1 r2 sd se (room_min hdp hu) ⟨.bl _, H, I, rfl, q⟩
theorem op_neP (hu : X.A.units + 64 < cLine) : OpR X (compareOp .NotEq) (rNeP X.K) := by
  intro pins s σ H x y v u Q I rx ry h
  obtain ⟨d, e, hd, he, sd, se, hdp, q⟩ := h
  obtain ⟨as, r1⟩ := Dp.reads I d x v hd rx
  obtain ⟨bs, r2⟩ := Dp.reads I e y u he ry
  exact PySem.SeqAt.ne_plain r1 r2 sd se (room_min hdp hu) ⟨.bl _, H, I, rfl, q⟩
/-- <, >, <=, >= of data -/
def rCmpP (K : PySem.W.Frag) (f : PyData → PyData → Bool) : R2 := fun x y H Q => ∃ d e, Dp K H x d ∧ Dp K H y e ∧ PySem.W.alike d e = true ∧ d ≠ .none ∧ d.depth ≤ 60 ∧ Q (.bl (f d e)) H
theorem op_ltP (hu : X.A.units + 64 < cLine) : OpR X (compareOp .Lt) (rCmpP X.K fun d e => PySem.W.dataLt d e) := by
  intro pins s σ H x y v u Q I rx ry h
  obtain ⟨d, e, hd, he, sa, sn, hdp, q⟩ := h
  obtain ⟨as, r1⟩ := Dp.reads I d x v hd rx
  obtain ⟨bs, r2⟩ := Dp.reads I e y u he ry
  exact PySem.W.lt_data r1 r2 sa sn (room_min hdp hu) ⟨.bl _, H, I, rfl, q⟩
theorem op_gtP (hu : X.A.units + 64 < cLine) : OpR X (compareOp .Gt) (rCmpP X.K fun d e => PySem.W.dataLt e d) := by
  intro pins s σ H x y v u Q I rx ry h
  obtain ⟨d, e, hd, he, sa, sn, hdp, q⟩ := h
  obtain ⟨as, r1⟩ := Dp.reads I d x v hd rx
  obtain ⟨bs, r2⟩ := Dp.reads I e y u he ry
  exact PySem.W.gt_data r1 r2 sa sn (room_min hdp hu) ⟨.bl _, H, I, rfl, q⟩
theorem op_leP (hu : X.A.units + 64 < cLine) : OpR X (compareOp .LtE) (rCmpP X.K fun d e => !PySem.W.dataLt e d) := by
  intro pins s σ H x y v u Q I rx ry h
  obtain ⟨d, e, hd, he, sa, sn, hdp, q⟩ := h
  obtain ⟨as, r1⟩ := Dp.reads I d x v hd rx
  obtain ⟨bs, r2⟩ := Dp.reads I e y u he ry
  exact PySem.W.le_data r1 r2 sa sn (room_min hdp hu) ⟨.bl _, H, I, rfl, q⟩
theorem op_geP (hu : X.A.units + 64 < cLine) : OpR X (compareOp .GtE) (rCmpP X.K fun d e => !PySem.W.dataLt d e) := by
  intro pins s σ H x y v u Q I rx ry h
  obtain ⟨d, e, hd, he, sa, sn, hdp, q⟩ := h
  obtain ⟨as, r1⟩ := Dp.reads I d x v hd rx
  obtain ⟨bs, r2⟩ := Dp.reads I e y u he ry
  exact PySem.W.ge_data r1 r2 sa sn (room_min hdp hu) ⟨.bl _, H, I, rfl, q⟩
/-- x in l, l a list of data -/
def rInP (K : PySem.W.Frag) (neg : Bool) : R2 := fun x y H Q => ∃ d ds, Dp K H x d ∧ Dp K H y (.list ds) ∧ d.plain = true ∧ PyData.plainAll ds = true ∧ d.depth ≤ 60 ∧ Q (.bl (if neg then !(ds.any fun y => PyData.eqv y d) else ds.any fun y => PyData.eqv y d)) H
theorem op_inP (hu : X.A.units + 65 < cLine) : OpR X (compareOp .In) (rInP X.K false) := by
  intro pins s σ H x y v u Q I rx ry h
  obtain ⟨d, ds, hd, he, sd, se, hdp, q⟩ := h
  obtain ⟨as, r1⟩ := Dp.reads I d x v hd rx
  obtain ⟨bs, r2⟩ := Dp.reads I (.list ds) y u he ry
  refine PySem.SeqAt.in_list_data r2 r1 se sd ?_ ⟨.bl _, H, I, rfl, q⟩
  have := Nat.min_le_right (PyData.depthAll ds) d.depth
  omega
theorem op_notInP (hu : X.A.units + 65 < cLine) : OpR X (compareOp .NotIn) (rInP X.K true) := by
  intro pins s σ H x y v u Q I rx ry h
  obtain ⟨d, ds, hd, he, sd, se, hdp, q⟩ := h
  obtain ⟨as, r1⟩ := Dp.reads I d x v hd rx
  obtain ⟨bs, r2⟩ := Dp.reads I (.list ds) y u he ry
  refine PySem.SeqAt.notIn_list_data r2 r1 se sd ?_ ⟨.bl _, H, I, rfl, q⟩
  have := Nat.min_le_right (PyData.depthAll ds) d.depth
  omega
end
end FC
set_option maxHeartbeats 4000000
/-! FS: built-ins, subscripts, slices, methods of lists, dicts. -/
namespace FC
open PySem PySem.Spec PyProof.Rows L2 Evl

section
variable {K : PySem.W.Frag} {B H : Hp} {m m1 m' : M} {a b c : SD} {α β γ : Type} {f : α → PyData} {g : β → PyData}
theorem sda1 {vs : List V} (h : SdAll K B [a] vs) : ∃ v, vs = [v] ∧ SdOk K B a v := by
  cases vs with
  | nil => exact h.elim
  | cons v r =>
    cases r with
    | nil => exact ⟨v, rfl, h.1⟩
    | cons w r => exact h.2.elim
theorem sda2 {vs : List V} (h : SdAll K B [a, b] vs) : ∃ v w, vs = [v, w] ∧ SdOk K B a v ∧ SdOk K B b w := by
  cases vs with
  | nil => exact h.elim
  | cons v r =>
    obtain ⟨w, rfl, h2⟩ := sda1 h.2
    exact ⟨v, w, rfl, h.1, h2⟩
/-! ### comparisons, typed -/
theorem da_dp {d : PyData} {v : V} (s : SOk K B m H) (h : SdOk K B (.da d) v) : Dp K H v d := (dp_mono s.ext (show Dq B v d from h)).dp
theorem rr_eq [DecidableEq α] [e : Enc f] {x y : α} (hd : Enc.dep f ≤ 60) : Rr K (rEqP K) (.da (f x)) (.da (f y)) m (.da (dB (decide (x = y)))) m := Rr.of fun B H u v s dx dy Q q =>
  ⟨f x, f y, da_dp s dx, da_dp s dy, Enc.plain x, Enc.plain y, Nat.le_trans (Enc.dep_le x) hd, by rw [Enc.eqv]; exact q _ (.bl _)⟩
theorem rr_ne [DecidableEq α] [e : Enc f] {x y : α} (hd : Enc.dep f ≤ 60) : Rr K (rNeP K) (.da (f x)) (.da (f y)) m (.da (dB (!decide (x = y)))) m := Rr.of fun B H u v s dx dy Q q =>
  ⟨f x, f y, da_dp s dx, da_dp s dy, Enc.plain x, Enc.plain y, Nat.le_trans (Enc.dep_le x) hd, by rw [Enc.eqv]; exact q _ (.bl _)⟩
theorem rr_lt [DecidableEq α] [e : EncO f] {x y : α} (hd : Enc.dep f ≤ 60) : Rr K (rCmpP K fun d e => PySem.W.dataLt d e) (.da (f x)) (.da (f y)) m (.da (dB (EncO.lt f x y))) m := Rr.of fun B H u v s dx dy Q q =>
  ⟨f x, f y, da_dp s dx, da_dp s dy, EncO.alike x y, EncO.notNone x, Nat.le_trans (Enc.dep_le x) hd, by show Q (.bl (PySem.W.dataLt (f x) (f y))) H; rw [EncO.lt_eq]; exact q _ (.bl _)⟩
theorem rr_gt [DecidableEq α] [e : EncO f] {x y : α} (hd : Enc.dep f ≤ 60) : Rr K (rCmpP K fun d e => PySem.W.dataLt e d) (.da (f x)) (.da (f y)) m (.da (dB (EncO.lt f y x))) m := Rr.of fun B H u v s dx dy Q q =>
  ⟨f x, f y, da_dp s dx, da_dp s dy, EncO.alike x y, EncO.notNone x, Nat.le_trans (Enc.dep_le x) hd, by show Q (.bl (PySem.W.dataLt (f y) (f x))) H; rw [EncO.lt_eq]; exact q _ (.bl _)⟩
theorem rr_le [DecidableEq α] [e : EncO f] {x y : α} (hd : Enc.dep f ≤ 60) : Rr K (rCmpP K fun d e => !PySem.W.dataLt e d) (.da (f x)) (.da (f y)) m (.da (dB (!EncO.lt f y x))) m := Rr.of fun B H u v s dx dy Q q =>
  ⟨f x, f y, da_dp s dx, da_dp s dy, EncO.alike x y, EncO.notNone x, Nat.le_trans (Enc.dep_le x) hd, by show Q (.bl (!PySem.W.dataLt (f y) (f x))) H; rw [EncO.lt_eq]; exact q _ (.bl _)⟩
theorem rr_ge [DecidableEq α] [e : EncO f] {x y : α} (hd : Enc.dep f ≤ 60) : Rr K (rCmpP K fun d e => !PySem.W.dataLt d e) (.da (f x)) (.da (f y)) m (.da (dB (!EncO.lt f x y))) m := Rr.of fun B H u v s dx dy Q q =>
  ⟨f x, f y, da_dp s dx, da_dp s dy, EncO.alike x y, EncO.notNone x, Nat.le_trans (Enc.dep_le x) hd, by show Q (.bl (!PySem.W.dataLt (f x) (f y))) H; rw [EncO.lt_eq]; exact q _ (.bl _)⟩
def memB [DecidableEq α] (x : α) (xs : List α) : Bool := xs.any fun y => decide (y = x)
theorem memB_iff [DecidableEq α] {x : α} {xs : List α} : memB x xs = true ↔ x ∈ xs := by
  unfold memB; rw [List.any_eq_true]
  exact ⟨fun ⟨y, hy, e⟩ => of_decide_eq_true e ▸ hy, fun h => ⟨x, h, decide_eq_true rfl⟩⟩
theorem any_enc [DecidableEq α] [e : Enc f] (xs : List α) (x : α) : ((xs.map f).any fun d => PyData.eqv d (f x)) = memB x xs := by
  rw [List.any_map]; unfold memB
  congr 1; funext y; exact Enc.eqv y x
theorem rr_in [DecidableEq α] [e : Enc f] {x : α} {xs : List α} (hd : Enc.dep f ≤ 60) : Rr K (rInP K false) (.da (f x)) (.da (dL f xs)) m (.da (dB (memB x xs))) m := Rr.of fun B H u v s dx dy Q q =>
  ⟨f x, xs.map f, da_dp s dx, da_dp s dy, Enc.plain x, plainAll_enc f xs, Nat.le_trans (Enc.dep_le x) hd, by
    show Q (.bl ((xs.map f).any fun d => PyData.eqv d (f x))) H
    rw [any_enc]; exact q _ (.bl _)⟩
theorem rr_notIn [DecidableEq α] [e : Enc f] {x : α} {xs : List α} (hd : Enc.dep f ≤ 60) : Rr K (rInP K true) (.da (f x)) (.da (dL f xs)) m (.da (dB (!memB x xs))) m := Rr.of fun B H u v s dx dy Q q =>
  ⟨f x, xs.map f, da_dp s dx, da_dp s dy, Enc.plain x, plainAll_enc f xs, Nat.le_trans (Enc.dep_le x) hd, by
    show Q (.bl (!((xs.map f).any fun d => PyData.eqv d (f x)))) H
    rw [any_enc]; exact q _ (.bl _)⟩

/-! ### subscripts -/
theorem rr_ixL {xs : List α} {i : Int} {x : α} (h : getI xs i = some x) : Rr K (rIxL K) (.da (dL f xs)) (.da (dI i)) m (.da (f x)) m := Rr.of fun B H u v s dx dy Q q => by
  obtain ⟨p, vs, rfl, hp, ha⟩ := lst_of dx
  obtain ⟨w, h1, h2⟩ := dqa_at ha (atI_map h)
  exact ⟨p, vs, i, w, rfl, int_of dy, SqL.of (s.ext _ _ hp), h1, q _ h2⟩
theorem rr_ixU {xs : List α} {i : Int} {x : α} (h : getI xs i = some x) : Rr K (rIxT K) (.da (dU f xs)) (.da (dI i)) m (.da (f x)) m := Rr.of fun B H u v s dx dy Q q => by
  obtain ⟨p, vs, rfl, hp, ha⟩ := tup_of dx
  obtain ⟨w, h1, h2⟩ := dqa_at ha (atI_map h)
  exact ⟨p, vs, i, w, rfl, int_of dy, SqT.of (s.ext _ _ hp), h1, q _ h2⟩
/-- a written place of a tuple of written length -/
theorem rr_ixT {dl : List PyData} {i : Int} {d : PyData} (h : atI dl i = some d) : Rr K (rIxT K) (.da (.tuple dl)) (.da (dI i)) m (.da d) m := Rr.of fun B H u v s dx dy Q q => by
  obtain ⟨p, vs, rfl, hp, ha⟩ := dq_tuple dx
  obtain ⟨w, h1, h2⟩ := dqa_at ha h
  exact ⟨p, vs, i, w, rfl, int_of dy, SqT.of (s.ext _ _ hp), h1, q _ h2⟩
theorem rr_ixC {xs : List α} {i : Int} {x : α} {l : Addr} (j : Nat) (hj : m[j]? = some (l, .ls (xs.map f))) (h : getI xs i = some x) : Rr K (rIxL K) (.rf l) (.da (dI i)) m (.da (f x)) m := Rr.of fun B H u v s dx dy Q q => by
  obtain ⟨vs, h1, h2⟩ := s.ls hj
  obtain ⟨w, h3, h4⟩ := dqa_at h2 (atI_map h)
  exact ⟨l, vs, i, w, dx, int_of dy, SqL.of h1, h3, q _ h4⟩
theorem rr_ixSc {ns : List Int} {i x : Int} {l : Addr} (h : getI ns i = some x) : Rr K (rIxL K) (.sl l ns) (.da (dI i)) m (.da (dI x)) m := Rr.of fun B H u v s dx dy Q q => by
  exact ⟨l, ns.map V.int, i, .int x, dx.1, int_of dy, ex_l s.ext dx.2, atI_map h, q _ (.int x)⟩

/-! ### slices -/
theorem cutV_eq (xs : List V) (lo hi : Option Int) : cutV xs lo hi = cutI xs lo hi := rfl
theorem cutI_map (xs : List α) (lo hi : Option Int) : cutI (xs.map f) lo hi = (cutI xs lo hi).map f := by
  unfold cutI
  rw [List.map_take, List.map_drop, List.length_map]
theorem dqa_cut {vs : List V} {dl : List PyData} (h : DqAll B vs dl) (lo hi : Option Int) : DqAll B (cutI vs lo hi) (cutI dl lo hi) := by
  unfold cutI
  rw [dpa_len h]
  exact dqa_take _ (dqa_drop _ h)
theorem rs_L {xs : List α} {lo hi : Option Int} : Rs K (rSlL K) (.da (dL f xs)) lo hi m (.da (dL f (cutI xs lo hi))) m := fun B H u s dx Q q => by
  obtain ⟨p, vs, rfl, hp, ha⟩ := lst_of dx
  refine ⟨p, vs, rfl, SqL.of (s.ext _ _ hp), fun w hw => q _ _ _ (Tr.data s hw) (s.data hw) ?_⟩
  refine Dq.lst upd_same (dpa_mono (Ex.new (fresh_b s hw)) ?_)
  rw [← cutI_map]
  exact dqa_cut ha lo hi
theorem rs_C {xs : List α} {lo hi : Option Int} {l : Addr} (j : Nat) (hj : m[j]? = some (l, .ls (xs.map f))) : Rs K (rSlL K) (.rf l) lo hi m (.da (dL f (cutI xs lo hi))) m := fun B H u s dx Q q => by
  obtain ⟨vs, hp, ha⟩ := s.ls hj
  refine ⟨l, vs, dx, SqL.of hp, fun w hw => q _ _ _ (Tr.data s hw) (s.data hw) ?_⟩
  refine Dq.lst upd_same (dpa_mono (Ex.new (fresh_b s hw)) ?_)
  rw [← cutI_map]
  exact dqa_cut ha lo hi
/-- a tuple's slice: the tuple itself, or a new one -/
theorem rs_T {dl : List PyData} {lo hi : Option Int} : Rs K (rSlA K) (.da (.tuple dl)) lo hi m (.da (.tuple (cutI dl lo hi))) m := fun B H u s dx Q q => by
  obtain ⟨p, vs, rfl, hp, ha⟩ := dq_tuple dx
  refine ⟨p, vs, rfl, SqT.of (s.ext _ _ hp), fun hw => ?_, fun _ w hw => q _ _ _ (Tr.data s hw) (s.data hw) (Dq.tup upd_same (dpa_mono (Ex.new (fresh_b s hw)) (dqa_cut ha lo hi)))⟩
  refine q _ B H (Tr.refl _ _ _) s ?_
  have e : cutI dl lo hi = dl := by
    unfold cutI
    rw [← dpa_len ha, hw.1, hw.2, Nat.sub_zero, List.drop_zero]
    exact List.take_of_length_le (by rw [dpa_len ha]; exact Nat.le_refl _)
  rw [e]
  exact Dq.tup hp ha
theorem rs_U {xs : List α} {lo hi : Option Int} : Rs K (rSlA K) (.da (dU f xs)) lo hi m (.da (dU f (cutI xs lo hi))) m := by
  have h := rs_T (K := K) (m := m) (dl := xs.map f) (lo := lo) (hi := hi)
  rw [cutI_map] at h
  exact h

/-! ### built-in functions -/
theorem rc_lenL {xs : List α} : Rc K (fun xs H Q => ∃ p ys, xs = [.ref p] ∧ (SqL K H p ys ∨ SqT K H p ys) ∧ Q (.int ys.length) H) [.da (dL f xs)] m (.da (dI xs.length)) m := Rc.of fun B H vs s dx Q q => by
  obtain ⟨v, rfl, d1⟩ := sda1 dx
  obtain ⟨p, ws, rfl, hp, ha⟩ := lst_of d1
  refine ⟨p, ws, rfl, .inl (SqL.of (s.ext _ _ hp)), ?_⟩
  rw [dpa_len ha, List.length_map]
  exact q _ (.int _)
theorem rc_lenU {xs : List α} : Rc K (fun xs H Q => ∃ p ys, xs = [.ref p] ∧ (SqL K H p ys ∨ SqT K H p ys) ∧ Q (.int ys.length) H) [.da (dU f xs)] m (.da (dI xs.length)) m := Rc.of fun B H vs s dx Q q => by
  obtain ⟨v, rfl, d1⟩ := sda1 dx
  obtain ⟨p, ws, rfl, hp, ha⟩ := tup_of d1
  refine ⟨p, ws, rfl, .inr (SqT.of (s.ext _ _ hp)), ?_⟩
  rw [dpa_len ha, List.length_map]
  exact q _ (.int _)
theorem rc_lenC {xs : List α} {l : Addr} (j : Nat) (hj : m[j]? = some (l, .ls (xs.map f))) : Rc K (fun xs H Q => ∃ p ys, xs = [.ref p] ∧ (SqL K H p ys ∨ SqT K H p ys) ∧ Q (.int ys.length) H) [.rf l] m (.da (dI xs.length)) m := Rc.of fun B H vs s dx Q q => by
  obtain ⟨v, rfl, d1⟩ := sda1 dx
  obtain ⟨ws, hp, ha⟩ := s.ls hj
  have e : v = .ref l := d1
  refine ⟨l, ws, by rw [e], .inl (SqL.of hp), ?_⟩
  rw [dpa_len ha, List.length_map]
  exact q _ (.int _)
theorem rc_lenSc {ns : List Int} {l : Addr} : Rc K (fun xs H Q => ∃ p ys, xs = [.ref p] ∧ (SqL K H p ys ∨ SqT K H p ys) ∧ Q (.int ys.length) H) [.sl l ns] m (.da (dI ns.length)) m := Rc.of fun B H vs s dx Q q => by
  obtain ⟨v, rfl, d1⟩ := sda1 dx
  have d1 : v = .ref l ∧ SqL K B l (ns.map V.int) := d1
  obtain ⟨e1, d2⟩ := d1
  have d3 : SqL K H l (ns.map V.int) := ex_l s.ext d2
  refine ⟨l, ns.map V.int, by rw [e1], Or.inl d3, ?_⟩
  have e2 : (ns.map V.int).length = ns.length := List.length_map _
  rw [e2]
  exact q _ (.int _)
theorem rc_abs {i : Int} : Rc K (fun xs H Q => ∃ i, xs = [.int i] ∧ Q (.int (if i < 0 then -i else i)) H) [.da (dI i)] m (.da (dI (absI i))) m := Rc.of fun B H vs s dx Q q => by
  obtain ⟨v, rfl, d1⟩ := sda1 dx
  exact ⟨i, by rw [int_of d1], q _ (.int _)⟩
theorem rc_max2 {i j : Int} : Rc K (fun xs H Q => ∃ i j, xs = [.int i, .int j] ∧ Q (.int (if j > i then j else i)) H) [.da (dI i), .da (dI j)] m (.da (dI (max2 i j))) m := Rc.of fun B H vs s dx Q q => by
  obtain ⟨v, w, rfl, d1, d2⟩ := sda2 dx
  exact ⟨i, j, by rw [int_of d1, int_of d2], q _ (.int _)⟩
theorem rc_min2 {i j : Int} : Rc K (fun xs H Q => ∃ i j, xs = [.int i, .int j] ∧ Q (.int (if j < i then j else i)) H) [.da (dI i), .da (dI j)] m (.da (dI (min2 i j))) m := Rc.of fun B H vs s dx Q q => by
  obtain ⟨v, w, rfl, d1, d2⟩ := sda2 dx
  exact ⟨i, j, by rw [int_of d1, int_of d2], q _ (.int _)⟩
theorem rc_intB {b : Bool} : Rc K (fun xs H Q => (∃ i, xs = [.int i] ∧ Q (.int i) H) ∨ ∃ k, xs = [.bl k] ∧ Q (.int (if k then 1 else 0)) H) [.da (dB b)] m (.da (dI (b2 b))) m := Rc.of fun B H vs s dx Q q => by
  obtain ⟨v, rfl, d1⟩ := sda1 dx
  exact .inr ⟨b, by rw [bl_of d1], q _ (.int _)⟩
theorem rc_sum {ns : List Int} : Rc K (rSum K) [.da (dL dI ns)] m (.da (dI ns.sum)) m := Rc.of fun B H vs s dx Q q => by
  obtain ⟨v, rfl, d1⟩ := sda1 dx
  obtain ⟨p, ws, rfl, hp, ha⟩ := lst_of d1
  have e := dqa_ints ha
  subst e
  exact ⟨p, ns, rfl, SqL.of (s.ext _ _ hp), q _ (.int _)⟩
theorem rc_all {bs : List Bool} : Rc K (rAll K) [.da (dL dB bs)] m (.da (dB (bs.all id))) m := Rc.of fun B H vs s dx Q q => by
  obtain ⟨v, rfl, d1⟩ := sda1 dx
  obtain ⟨p, ws, rfl, hp, ha⟩ := lst_of d1
  have e := dqa_bools ha
  subst e
  exact ⟨p, bs, rfl, SqL.of (s.ext _ _ hp), q _ (.bl _)⟩
theorem rc_any {bs : List Bool} : Rc K (rAny K) [.da (dL dB bs)] m (.da (dB (bs.any id))) m := Rc.of fun B H vs s dx Q q => by
  obtain ⟨v, rfl, d1⟩ := sda1 dx
  obtain ⟨p, ws, rfl, hp, ha⟩ := lst_of d1
  have e := dqa_bools ha
  subst e
  exact ⟨p, bs, rfl, SqL.of (s.ext _ _ hp), q _ (.bl _)⟩
/-- list(x), tuple(x): a new one -/
abbrev rListOf (K : PySem.W.Frag) : List V → Hp → VK → Prop := fun xs H Q => ∃ p ys, xs = [.ref p] ∧ (SqL K H p ys ∨ SqT K H p ys) ∧ ∀ l, H l = none → Q (.ref l) (upd H l (.lst ys))
abbrev rTupOf (K : PySem.W.Frag) : List V → Hp → VK → Prop := fun xs H Q => ∃ p ys, xs = [.ref p] ∧ ((SqL K H p ys ∧ ∀ l, H l = none → Q (.ref l) (upd H l (.tup ys))) ∨ (SqT K H p ys ∧ Q (.ref p) H))
theorem rc_listL {xs : List α} : Rc K (rListOf K) [.da (dL f xs)] m (.da (dL f xs)) m := fun B H vs s dx Q q => by
  obtain ⟨v, rfl, d1⟩ := sda1 dx
  obtain ⟨p, ws, rfl, hp, ha⟩ := lst_of d1
  exact ⟨p, ws, rfl, .inl (SqL.of (s.ext _ _ hp)), fun l hl => q _ _ _ (Tr.data s hl) (s.data hl) (Dq.lst upd_same (dpa_mono (Ex.new (fresh_b s hl)) ha))⟩
theorem rc_listU {xs : List α} : Rc K (rListOf K) [.da (dU f xs)] m (.da (dL f xs)) m := fun B H vs s dx Q q => by
  obtain ⟨v, rfl, d1⟩ := sda1 dx
  obtain ⟨p, ws, rfl, hp, ha⟩ := tup_of d1
  exact ⟨p, ws, rfl, .inr (SqT.of (s.ext _ _ hp)), fun l hl => q _ _ _ (Tr.data s hl) (s.data hl) (Dq.lst upd_same (dpa_mono (Ex.new (fresh_b s hl)) ha))⟩
theorem rn_listL {xs : List α} : RcN K (rListOf K) [.da (dL f xs)] m (.ls (xs.map f)) m := fun B H vs s dx Q q => by
  obtain ⟨v, rfl, d1⟩ := sda1 dx
  obtain ⟨p, ws, rfl, hp, ha⟩ := lst_of d1
  exact ⟨p, ws, rfl, .inl (SqL.of (s.ext _ _ hp)), fun l hl => q _ _ _ (Tr.cell s hl) (s.cell hl ha)⟩
theorem rc_listC {xs : List α} {l : Addr} (j : Nat) (hj : m[j]? = some (l, .ls (xs.map f))) : Rc K (rListOf K) [.rf l] m (.da (dL f xs)) m := fun B H vs s dx Q q => by
  obtain ⟨v, rfl, d1⟩ := sda1 dx
  obtain ⟨ws, hp, ha⟩ := s.ls hj
  have e : v = .ref l := d1
  exact ⟨l, ws, by rw [e], .inl (SqL.of hp), fun l hl => q _ _ _ (Tr.data s hl) (s.data hl) (Dq.lst upd_same (dpa_mono (Ex.new (fresh_b s hl)) ha))⟩
theorem rc_tupL {xs : List α} : Rc K (rTupOf K) [.da (dL f xs)] m (.da (dU f xs)) m := fun B H vs s dx Q q => by
  obtain ⟨v, rfl, d1⟩ := sda1 dx
  obtain ⟨p, ws, rfl, hp, ha⟩ := lst_of d1
  exact ⟨p, ws, rfl, .inl ⟨SqL.of (s.ext _ _ hp), fun l hl => q _ _ _ (Tr.data s hl) (s.data hl) (Dq.tup upd_same (dpa_mono (Ex.new (fresh_b s hl)) ha))⟩⟩
theorem rc_tupU {xs : List α} : Rc K (rTupOf K) [.da (dU f xs)] m (.da (dU f xs)) m := fun B H vs s dx Q q => by
  obtain ⟨v, rfl, d1⟩ := sda1 dx
  obtain ⟨p, ws, rfl, hp, ha⟩ := tup_of d1
  exact ⟨p, ws, rfl, .inr ⟨SqT.of (s.ext _ _ hp), q _ _ _ (Tr.refl _ _ _) s (Dq.tup hp ha)⟩⟩
end

/-! ### min, max, sorted of data -/
section
variable {X : Cx} {prog : Program} {w : World} {A : Around} {E : Value → Shared → Prop} {s : Shared}
theorem getD_some {α : Type} {l : List α} {i : Nat} {d x : α} (h : i < l.length) (e : l.getD i d = x) : l[i]? = some x := by
  rw [List.getD_eq_getElem?_getD, List.getElem?_eq_getElem h] at e
  rw [List.getElem?_eq_getElem h]
  exact congrArg some e
theorem min_ix {l : Addr} {vs : Array Value} {x : PyData} {xs : List PyData} {as : List Addr} {Q : Value → Shared → Prop} (hh : A.handled = none) (hl : s.heap.IsList l vs) (hr : ReadsAll s.heap vs.toList (x :: xs) as) (ha : PySem.W.AlikeAll (x :: xs)) (hu : A.units + 1 + PyData.depthAll (x :: xs) < cLine)
    (h : ∀ (i : Nat) v h' tk, vs[i]? = some v → (x :: xs)[i]? = some (PySem.W.minD x xs) → (∀ b o, s.heap.get? b = some o → h'.get? b = some o) → Q v { s with heap := h', toks := tk }) :
    wpAny (model prog w) A (call (.builtin "min") [.ref l]) Q E s := by
  have hn : vs.size = xs.length + 1 := PySem.W.readsAll_len hr
  refine PySem.call_min_walkH (PySem.W.iter_listW (A := A.in1) hh hl fun s₂ e W st hfp hw hk => ?_)
  refine ⟨_, _, _, _, _, _, _, s.heap, _, rfl, W, st, hfp, by omega, hw, hk, PySem.W.cmpIn_lt (A := A.in1) hr ha (by show A.units + 1 + _ < _; exact hu), fun v s' hP m => ?_⟩
  obtain ⟨h', tk, rfl, hk'⟩ := PySem.W.moved_old e rfl m
  have e1 : vs.size - 1 = xs.length := by omega
  obtain ⟨e3, e2⟩ := PySem.W.argBest_fold PySem.W.dataLt PyData.none x xs xs.length (Nat.le_refl _)
  rw [List.take_length] at e2
  rw [e1] at hP
  exact h _ v h' tk hP (getD_some (by rw [List.length_cons]; omega) e2) hk'
theorem max_ix {l : Addr} {vs : Array Value} {x : PyData} {xs : List PyData} {as : List Addr} {Q : Value → Shared → Prop} (hh : A.handled = none) (hl : s.heap.IsList l vs) (hr : ReadsAll s.heap vs.toList (x :: xs) as) (ha : PySem.W.AlikeAll (x :: xs)) (hu : A.units + 1 + PyData.depthAll (x :: xs) < cLine)
    (h : ∀ (i : Nat) v h' tk, vs[i]? = some v → (x :: xs)[i]? = some (PySem.W.maxD x xs) → (∀ b o, s.heap.get? b = some o → h'.get? b = some o) → Q v { s with heap := h', toks := tk }) :
    wpAny (model prog w) A (call (.builtin "max") [.ref l]) Q E s := by
  have hn : vs.size = xs.length + 1 := PySem.W.readsAll_len hr
  refine PySem.call_max_walkH (PySem.W.iter_listW (A := A.in1) hh hl fun s₂ e W st hfp hw hk => ?_)
  refine ⟨_, _, _, _, _, _, _, s.heap, _, rfl, W, st, hfp, by omega, hw, hk, PySem.W.cmpIn_gt (A := A.in1) hr ha (by show A.units + 1 + _ < _; exact hu), fun v s' hP m => ?_⟩
  obtain ⟨h', tk, rfl, hk'⟩ := PySem.W.moved_old e rfl m
  have e1 : vs.size - 1 = xs.length := by omega
  obtain ⟨e3, e2⟩ := PySem.W.argBest_fold (fun a b => PySem.W.dataLt b a) PyData.none x xs xs.length (Nat.le_refl _)
  rw [List.take_length] at e2
  rw [e1] at hP
  exact h _ v h' tk hP (getD_some (by rw [List.length_cons]; omega) e2) hk'
def rMinP (K : PySem.W.Frag) : List V → Hp → VK → Prop := fun vs H Q => ∃ (a : Addr) (xs : List V) (d : PyData) (ds : List PyData), vs = [V.ref a] ∧ SqL K H a xs ∧ DpAll K H xs (d :: ds) ∧ PySem.W.AlikeAll (d :: ds) ∧ PyData.depthAll (d :: ds) ≤ 60 ∧
  ∀ (i : Nat) v, xs[i]? = some v → (d :: ds)[i]? = some (PySem.W.minD d ds) → Q v H
def rMaxP (K : PySem.W.Frag) : List V → Hp → VK → Prop := fun vs H Q => ∃ (a : Addr) (xs : List V) (d : PyData) (ds : List PyData), vs = [V.ref a] ∧ SqL K H a xs ∧ DpAll K H xs (d :: ds) ∧ PySem.W.AlikeAll (d :: ds) ∧ PyData.depthAll (d :: ds) ≤ 60 ∧
  ∀ (i : Nat) v, xs[i]? = some v → (d :: ds)[i]? = some (PySem.W.maxD d ds) → Q v H
theorem vals_back : ∀ {xs : List V} {us : List Value} {i : Nat} {u : Value}, Vals xs us → us[i]? = some u → ∃ x, xs[i]? = some x ∧ RelV x u
  | _, _, _, _, .nil, e => by simp at e
  | _, _, 0, _, .cons r _, e => by
    have e' := Option.some.inj e
    subst e'
    exact ⟨_, rfl, r⟩
  | _, _, i + 1, x, .cons _ t, e => vals_back (i := i) t e
theorem cr_minP (hc : X.calm = true) (hu : X.A.units + 64 < cLine) : CallR X (.builtin "min") (rMinP X.K) := by
  intro pins s σ H vs us Q I r h
  obtain ⟨a, xs, d, ds, rfl, hs, hd, hal, hdp, q⟩ := h
  obtain ⟨its, rv, hl, _⟩ := I.list hs
  rw [Vals.ref1 r]
  obtain ⟨as, hr⟩ := Dp.readsAll I (d :: ds) xs its hd rv
  refine min_ix (I.ok.hd hc) hl.isList (by simpa using hr) hal (by omega) fun i v h' tk h1 h2 hk => ?_
  have h1' : its[i]? = some v := by simpa using h1
  obtain ⟨x, hx, rx⟩ := vals_back rv h1'
  exact ⟨x, H, I.kept hk, rx, q i x hx h2⟩
theorem cr_maxP (hc : X.calm = true) (hu : X.A.units + 64 < cLine) : CallR X (.builtin "max") (rMaxP X.K) := by
  intro pins s σ H vs us Q I r h
  obtain ⟨a, xs, d, ds, rfl, hs, hd, hal, hdp, q⟩ := h
  obtain ⟨its, rv, hl, _⟩ := I.list hs
  rw [Vals.ref1 r]
  obtain ⟨as, hr⟩ := Dp.readsAll I (d :: ds) xs its hd rv
  refine max_ix (I.ok.hd hc) hl.isList (by simpa using hr) hal (by omega) fun i v h' tk h1 h2 hk => ?_
  have h1' : its[i]? = some v := by simpa using h1
  obtain ⟨x, hx, rx⟩ := vals_back rv h1'
  exact ⟨x, H, I.kept hk, rx, q i x hx h2⟩
/-- sorted of data: P is what is known of the items -/
def rSrtP (K : PySem.W.Frag) : List V → Hp → VK → Prop := fun vs H Q => ∃ (a : Addr) (xs : List V) (ds : List PyData) (P : V → PyData → Prop), vs = [V.ref a] ∧ SqL K H a xs ∧ PySem.W.EachIs P xs ds ∧ (∀ x d, P x d → Dp K H x d) ∧ PySem.W.AllAlike ds ∧ PySem.W.Sortable ds ∧ (∀ d ∈ ds, d.depth ≤ 60) ∧
  ∀ ys p, PySem.W.EachIs P ys (ds.mergeSort (PySem.W.dataLe false id)) → H p = none → Q (.ref p) (upd H p (.lst ys))
theorem each_vals {P : V → PyData → Prop} : ∀ {xs : List V} {ds : List PyData} {its : List Value}, PySem.W.EachIs P xs ds → Vals xs its → PySem.W.EachIs (fun u d => ∃ x, RelV x u ∧ P x d) its ds
  | _, _, _, .nil, .nil => .nil
  | _, _, _, .cons h t, .cons r rs => .cons ⟨_, r, h⟩ (each_vals t rs)
theorem vals_each {P : V → PyData → Prop} : ∀ {ds : List PyData} {its : List Value}, PySem.W.EachIs (fun u d => ∃ x, RelV x u ∧ P x d) its ds → ∃ xs, Vals xs its ∧ PySem.W.EachIs P xs ds
  | _, _, .nil => ⟨[], .nil, .nil⟩
  | _, _, .cons ⟨x, r, h⟩ t => by
    obtain ⟨xs, h1, h2⟩ := vals_each t
    exact ⟨x :: xs, .cons r h1, .cons h h2⟩
theorem cr_srtP (hu : X.A.units + 64 < cLine) : CallR X (.builtin "sorted") (rSrtP X.K) := by
  intro pins s σ H vs us Q I r h
  obtain ⟨a, xs, ds, P, rfl, hs, hd, hP, hal, hsk, hdp, q⟩ := h
  obtain ⟨its, rv, hl, hz⟩ := I.list hs
  rw [Vals.ref1 r]
  have e := each_vals hd rv
  have hlen : ds.length = xs.length := hd.length.symm
  refine PySem.W.sorted_data (enc := id) (R := fun u d => ∃ x, RelV x u ∧ P x d) hl.isList e (e.mono fun u d ⟨x, rx, px⟩ => Dp.reads I d x u (hP x d px) rx) (by rw [List.map_id]; exact hal) (by rw [List.map_id]; exact hsk) (by rw [hlen]; exact hz) (fun d hd => by
    have := hdp d hd
    show X.A.units + 2 + d.depth < cLine
    omega) fun out ho he => ?_
  obtain ⟨ys, h1, h2⟩ := vals_each he
  obtain ⟨ep, he'⟩ := PyProof.Rows.sortedAll_at s.heap its out.toArray
  have hl2 : ys.length ≤ sizeLine := by
    rw [h1.length, ho, hlen]
    exact hz
  exact ⟨.ref _, upd H (s.heap.objs.size + 1) (.lst ys), I.laid (t' := s.toks) (fun _ _ => PyProof.Rows.sortedAll_old) (Nat.le_succ _) ⟨hl2, out, ep, h1, he'⟩, rfl, q ys _ h2 (I.hok.fresh (Nat.le_succ _))⟩
end

section
variable {K : PySem.W.Frag} {B H : Hp} {m m1 m' : M} {α β : Type} {f : α → PyData}
theorem depthAll_le [DecidableEq α] [Enc f] (xs : List α) (h : Enc.dep f ≤ 60) : PyData.depthAll (xs.map f) ≤ 60 := Nat.le_trans (depthAll_enc f xs) h
theorem alike_enc [DecidableEq α] [EncO f] (xs : List α) : PySem.W.AlikeAll (xs.map f) := by
  constructor
  · intro x hx y hy
    obtain ⟨a, _, rfl⟩ := List.mem_map.mp hx
    obtain ⟨b, _, rfl⟩ := List.mem_map.mp hy
    exact EncO.alike a b
  · intro x hx
    obtain ⟨a, _, rfl⟩ := List.mem_map.mp hx
    exact EncO.notNone a
theorem minD_enc [DecidableEq α] [EncO f] (x : α) : ∀ xs : List α, PySem.W.minD (f x) (xs.map f) = f (xs.foldl (fun a y => if EncO.lt f y a = true then y else a) x) := fun xs => by
  unfold PySem.W.minD
  induction xs generalizing x with
  | nil => rfl
  | cons y ys ih =>
    rw [List.map_cons, List.foldl_cons, List.foldl_cons, ← ih]
    (try dsimp only)
    rw [EncO.lt_eq y x]
    cases EncO.lt f y x <;> rfl
theorem maxD_enc [DecidableEq α] [EncO f] (x : α) : ∀ xs : List α, PySem.W.maxD (f x) (xs.map f) = f (xs.foldl (fun a y => if EncO.lt f a y = true then y else a) x) := fun xs => by
  unfold PySem.W.maxD
  induction xs generalizing x with
  | nil => rfl
  | cons y ys ih =>
    rw [List.map_cons, List.foldl_cons, List.foldl_cons, ← ih]
    (try dsimp only)
    rw [EncO.lt_eq x y]
    cases EncO.lt f x y <;> rfl
theorem dqa_ix {vs : List V} {dl : List PyData} {i : Nat} {d : PyData} {v : V} (h : DqAll B vs dl) (h1 : vs[i]? = some v) (h2 : dl[i]? = some d) : Dq B v d := by
  obtain ⟨w, e, q⟩ := dqa_get h h2
  rw [h1] at e
  rw [Option.some.inj e]
  exact q
theorem rc_min [DecidableEq α] [EncO f] {xs : List α} {x : α} (hd : Enc.dep f ≤ 60) (h : minL (EncO.lt f) xs = some x) : Rc K (rMinP K) [.da (dL f xs)] m (.da (f x)) m := Rc.of fun B H vs s dx Q q => by
  obtain ⟨v, rfl, d1⟩ := sda1 dx
  obtain ⟨p, ws, rfl, hp, ha⟩ := lst_of d1
  cases xs with
  | nil => cases h
  | cons y ys =>
    refine ⟨p, ws, f y, ys.map f, rfl, SqL.of (s.ext _ _ hp), (dpa_mono s.ext ha).dp, alike_enc (y :: ys), depthAll_le (y :: ys) hd, fun i v h1 h2 => q v ?_⟩
    rw [minD_enc] at h2
    rw [← Option.some.inj h]
    exact dqa_ix ha h1 h2
theorem rc_max [DecidableEq α] [EncO f] {xs : List α} {x : α} (hd : Enc.dep f ≤ 60) (h : maxL (EncO.lt f) xs = some x) : Rc K (rMaxP K) [.da (dL f xs)] m (.da (f x)) m := Rc.of fun B H vs s dx Q q => by
  obtain ⟨v, rfl, d1⟩ := sda1 dx
  obtain ⟨p, ws, rfl, hp, ha⟩ := lst_of d1
  cases xs with
  | nil => cases h
  | cons y ys =>
    refine ⟨p, ws, f y, ys.map f, rfl, SqL.of (s.ext _ _ hp), (dpa_mono s.ext ha).dp, alike_enc (y :: ys), depthAll_le (y :: ys) hd, fun i v h1 h2 => q v ?_⟩
    rw [maxD_enc] at h2
    rw [← Option.some.inj h]
    exact dqa_ix ha h1 h2
theorem dqa_each : ∀ {vs : List V} {dl : List PyData}, DqAll B vs dl → PySem.W.EachIs (Dq B) vs dl
  | _, _, .nil => .nil
  | _, _, .cons h t => .cons h (dqa_each t)
theorem each_dqa : ∀ {vs : List V} {dl : List PyData}, PySem.W.EachIs (Dq B) vs dl → DqAll B vs dl
  | _, _, .nil => .nil
  | _, _, .cons h t => .cons h (each_dqa t)
theorem srt_map [DecidableEq α] [EncO f] (xs : List α) : (xs.map f).mergeSort (PySem.W.dataLe false id) = (srt (EncO.lt f) xs).map f := by
  unfold srt
  refine (PySem.W.sort_maps f fun a _ b _ => ?_).symm
  show (!EncO.lt f b a) = (!PySem.W.dataLt (f b) (f a))
  rw [EncO.lt_eq]
theorem rc_srtAux [DecidableEq α] [EncO f] {xs : List α} (hd : Enc.dep f ≤ 60) (hs : PySem.W.Sortable (xs.map f)) {p : Addr} {ws : List V} (s : SOk K B m H) (hp : H p = some (.lst ws)) (ha : DqAll B ws (xs.map f)) (Q : VK)
    (q : ∀ ys p, DqAll B ys ((srt (EncO.lt f) xs).map f) → H p = none → Q (.ref p) (upd H p (.lst ys))) : rSrtP K [.ref p] H Q :=
  ⟨p, ws, xs.map f, Dq B, rfl, SqL.of hp, dqa_each ha, fun x d h => (dp_mono s.ext h).dp, (alike_enc xs).1, hs, fun d hd' => by
    obtain ⟨a, _, rfl⟩ := List.mem_map.mp hd'
    exact Nat.le_trans (Enc.dep_le a) hd, fun ys p h hp => q ys p (by rw [srt_map] at h; exact each_dqa h) hp⟩
/-- what can be sorted: tuples with an item, or no tuples -/
class SrtT (f : α → PyData) : Prop where
  tup : ∀ a, ∃ x r, f a = .tuple (x :: r)
class SrtO (f : α → PyData) : Prop where
  oth : ∀ a, f a ≠ .none ∧ ∀ xs, f a ≠ .tuple xs
class SrtOk (f : α → PyData) : Prop where
  ok : ∀ xs : List α, PySem.W.Sortable (xs.map f)
instance {β : Type} {g : β → PyData} : SrtOk (dP f g) := ⟨fun xs => .inl fun d hd => by
  obtain ⟨a, _, rfl⟩ := List.mem_map.mp hd
  exact ⟨_, _, rfl⟩⟩
instance {β γ : Type} {g : β → PyData} {h : γ → PyData} : SrtOk (d3 f g h) := ⟨fun xs => .inl fun d hd => by
  obtain ⟨a, _, rfl⟩ := List.mem_map.mp hd
  exact ⟨_, _, rfl⟩⟩
instance : SrtOk dI := ⟨fun xs => .inr fun d hd => by
  obtain ⟨a, _, rfl⟩ := List.mem_map.mp hd
  exact ⟨fun e => (by cases e), fun _ e => (by cases e)⟩⟩
instance : SrtOk dS := ⟨fun xs => .inr fun d hd => by
  obtain ⟨a, _, rfl⟩ := List.mem_map.mp hd
  exact ⟨fun e => (by cases e), fun _ e => (by cases e)⟩⟩
instance : SrtOk (dL f) := ⟨fun xs => .inr fun d hd => by
  obtain ⟨a, _, rfl⟩ := List.mem_map.mp hd
  exact ⟨fun e => (by cases e), fun _ e => (by cases e)⟩⟩
def srtU (lt : List α → List α → Bool) (xs : List (List α)) : Option (List (List α)) := if xs.all (fun x => !x.isEmpty) = true then some (srt lt xs) else none
theorem srtU_some {lt : List α → List α → Bool} {xs ys : List (List α)} (h : srtU lt xs = some ys) : PySem.W.Sortable (xs.map (dU f)) ∧ srt lt xs = ys := by
  unfold srtU at h
  split at h
  · refine ⟨.inl fun d hd => ?_, Option.some.inj h⟩
    obtain ⟨a, ha, rfl⟩ := List.mem_map.mp hd
    have h1 := List.all_eq_true.mp ‹_› a ha
    cases a with
    | nil => cases h1
    | cons x r => exact ⟨_, _, rfl⟩
  · cases h
theorem rc_srt [DecidableEq α] [EncO f] [SrtOk f] {xs : List α} (hd : Enc.dep f ≤ 60) : Rc K (rSrtP K) [.da (dL f xs)] m (.da (dL f (srt (EncO.lt f) xs))) m := fun B H vs s dx Q q => by
  obtain ⟨v, rfl, d1⟩ := sda1 dx
  obtain ⟨p, ws, rfl, hp, ha⟩ := lst_of d1
  exact rc_srtAux hd (SrtOk.ok xs) s (s.ext _ _ hp) ha Q fun ys p h hp => q _ _ _ (Tr.data s hp) (s.data hp) (Dq.lst upd_same (dpa_mono (Ex.new (fresh_b s hp)) h))
theorem rc_srtC [DecidableEq α] [EncO f] [SrtOk f] {xs : List α} {l : Addr} (hd : Enc.dep f ≤ 60) (j : Nat) (hj : m[j]? = some (l, .ls (xs.map f))) : Rc K (rSrtP K) [.rf l] m (.da (dL f (srt (EncO.lt f) xs))) m := fun B H vs s dx Q q => by
  obtain ⟨v, rfl, d1⟩ := sda1 dx
  obtain ⟨ws, hp, ha⟩ := s.ls hj
  have e : v = .ref l := d1
  rw [e]
  exact rc_srtAux hd (SrtOk.ok xs) s hp ha Q fun ys p h hp => q _ _ _ (Tr.data s hp) (s.data hp) (Dq.lst upd_same (dpa_mono (Ex.new (fresh_b s hp)) h))
theorem rc_srtU [DecidableEq α] [EncO f] {xs ys : List (List α)} (hd : Enc.dep (dU f) ≤ 60) (h : srtU (EncO.lt (dU f)) xs = some ys) : Rc K (rSrtP K) [.da (dL (dU f) xs)] m (.da (dL (dU f) ys)) m := fun B H vs s dx Q q => by
  obtain ⟨v, rfl, d1⟩ := sda1 dx
  obtain ⟨p, ws, rfl, hp, ha⟩ := lst_of d1
  obtain ⟨h1, rfl⟩ := srtU_some (f := f) h
  exact rc_srtAux hd h1 s (s.ext _ _ hp) ha Q fun ys p h hp => q _ _ _ (Tr.data s hp) (s.data hp) (Dq.lst upd_same (dpa_mono (Ex.new (fresh_b s hp)) h))

/-! ### lists: +, append, extend, stores, pop -/
theorem rr_cat {xs ys : List α} (hz : lenG (xs.length + ys.length) = some ()) : Rr K rCat (.da (dL f xs)) (.da (dL f ys)) m (.da (dL f (xs ++ ys))) m := fun B H x y s dx dy Q q => by
  obtain ⟨p, vs, rfl, hp, ha⟩ := lst_of dx
  obtain ⟨p2, vs2, rfl, hp2, ha2⟩ := lst_of dy
  have h1 := dpa_len ha
  have h2 := dpa_len ha2
  have h3 := lenG_some hz
  rw [List.length_map] at h1 h2
  refine ⟨p, p2, vs, vs2, rfl, rfl, s.ext _ _ hp, s.ext _ _ hp2, by rw [sizeLine_eq]; omega, fun l hl => q _ _ _ (Tr.data s hl) (s.data hl) (Dq.lst upd_same (dpa_mono (Ex.new (fresh_b s hl)) ?_))⟩
  rw [List.map_append]
  exact dqa_app ha ha2
theorem rm_app {xs : List α} {x : α} {l : Addr} (j : Nat) (hj : m[j]? = some (l, .ls (xs.map f))) (hz : lenG xs.length = some ()) : Rm K rAppend (.rf l) [.da (f x)] m (.da .none) (m.set j (l, .ls ((xs ++ [x]).map f))) := fun B H v vs s dx da Q q => by
  obtain ⟨y, rfl, d1⟩ := sda1 da
  obtain ⟨ws, hp, ha⟩ := s.ls hj
  have h1 := dpa_len ha
  have h3 := lenG_some hz
  rw [List.length_map] at h1
  refine ⟨l, ws, y, dx, rfl, hp, by rw [sizeLine_eq]; omega, q _ _ _ (Tr.put s hj ?_) (s.put hj ?_) .non⟩
  all_goals
    rw [List.map_append]
    exact dqa_app ha (.cons d1 .nil)
theorem rm_ext {xs ys : List α} {l : Addr} (j : Nat) (hj : m[j]? = some (l, .ls (xs.map f))) (hz : lenG (xs.length + ys.length) = some ()) : Rm K rExtend (.rf l) [.da (dL f ys)] m (.da .none) (m.set j (l, .ls ((xs ++ ys).map f))) := fun B H v vs s dx da Q q => by
  obtain ⟨y, rfl, d1⟩ := sda1 da
  obtain ⟨ws, hp, ha⟩ := s.ls hj
  obtain ⟨p2, vs2, rfl, hp2, ha2⟩ := lst_of d1
  have h1 := dpa_len ha
  have h2 := dpa_len ha2
  have h3 := lenG_some hz
  rw [List.length_map] at h1 h2
  refine ⟨l, p2, ws, vs2, dx, rfl, hp, s.ext _ _ hp2, by rw [sizeLine_eq]; omega, q _ _ _ (Tr.put s hj ?_) (s.put hj ?_) .non⟩
  all_goals
    rw [List.map_append]
    exact dqa_app ha ha2
end
end FC
set_option maxHeartbeats 400000
/-! FT: what is walked (Src), comprehensions, statements (Wp), loops. -/
namespace FC
open PySem PySem.Spec PyProof.Rows L2 Evl

/-! ### what is walked -/
/-- the slots js alone are stored -/
def Sets (js : List Nat) (σ σ2 : L2.St) : Prop := σ2.length = σ.length ∧ ∀ i, i ∉ js → σ2[i]? = σ[i]?
/-- J walks the items, a target g stores them; while B1 stands and G holds of the cells -/
def Turns (K : PySem.W.Frag) {α : Type} (J : It) (g : TG) (B1 : Hp) (G : M → Prop) (items : List α) (up : α → List SD → List SD) (js : List Nat) : Prop :=
  (∀ i H B' m', i < items.length → Ex B1 B' → G m' → SOk K B' m' H → J.go i H) ∧
  (∀ H B' m', Ex B1 B' → G m' → SOk K B' m' H → J.stop items.length H) ∧
  (∀ i a x H H' B' m' ds σ, items[i]? = some a → Ex B1 B' → G m' → SOk K B' m' H → StOk K B' ds σ → J.yld i H x H' →
    ∀ Q : L2.St → Hp → Prop, (∀ B'' σ2, Tr B' H (keys m') B'' H' (keys m') → SOk K B'' m' H' → StOk K B'' (up a ds) σ2 → Sets js σ σ2 → Q σ2 H') → g x σ H' Q)
def Src (K : PySem.W.Frag) {α : Type} (wi : TI) (g : TG) (ds : List SD) (m m1 : M) (G : M → Prop) (items : List α) (up : α → List SD → List SD) (js : List Nat) : Prop :=
  ∀ B H σ, SOk K B m H → StOk K B ds σ → ∀ R : It → Hp → Prop, (∀ J B1 H1, Tr B H (keys m) B1 H1 (keys m1) → SOk K B1 m1 H1 → Turns K J g B1 G items up js → R J H1) → wi σ H R

section
variable {K : PySem.W.Frag} {B H : Hp} {ds : List SD} {m m1 m2 m' : M} {α β : Type} {f : α → PyData} {f2 : β → PyData} {tl te : TE} {ta : TA} {G : M → Prop}
theorem st_len : ∀ {ds : List SD} {σ : L2.St}, StOk K B ds σ → σ.length = ds.length
  | [], [], _ => rfl
  | _ :: _, _ :: _, h => congrArg (· + 1) (st_len h.2)
  | [], _ :: _, h => h.elim
  | _ :: _, [], h => h.elim
theorem sets1 {σ : L2.St} {j : Nat} {o : Option V} : Sets [j] σ (σ.set j o) := ⟨List.length_set, fun i h => by
  rw [List.getElem?_set_ne (fun e => h (by rw [e]; exact List.mem_singleton.mpr rfl))]⟩
theorem Sets.trans {σ σ1 σ2 : L2.St} {js ks : List Nat} (a : Sets js σ σ1) (b : Sets ks σ1 σ2) : Sets (js ++ ks) σ σ2 := ⟨b.1.trans a.1, fun i h => by
  rw [List.mem_append, not_or] at h
  exact (b.2 i h.2).trans (a.2 i h.1)⟩
/-- a target that is a name, a datum -/
theorem tg_name {x : V} {d : PyData} {j : Nat} {σ : L2.St} {B' : Hp} (s : SOk K B' m' H) (st : StOk K B' ds σ) (hx : Dq B' x d) (Q : L2.St → Hp → Prop)
    (q : ∀ B'' σ2, Tr B' H (keys m') B'' H (keys m') → SOk K B'' m' H → StOk K B'' (ds.set j (.da d)) σ2 → Sets [j] σ σ2 → Q σ2 H) : gName j x σ H Q :=
  q B' _ (Tr.refl _ _ _) s (st_set j st (sl_of (s := .da d) hx)) sets1
theorem dqa_some : ∀ {vs : List V} {xs : List α} {i : Nat} {a : α}, DqAll B vs (xs.map f) → xs[i]? = some a → ∃ v, vs[i]? = some v ∧ Dq B v (f a) := fun h e => dqa_get h (by rw [List.getElem?_map, e]; rfl)
theorem turns_list {B1 : Hp} {a : Addr} {vs : List V} {xs : List α} {j : Nat} (hL : ∀ H B' m', Ex B1 B' → G m' → SOk K B' m' H → SqL K H a vs) (hd : DqAll B1 vs (xs.map f)) :
    Turns K (Itl K a) (gName j) B1 G xs (fun x ds => ds.set j (.da (f x))) [j] := by
  have hl := dpa_len hd
  rw [List.length_map] at hl
  refine ⟨fun i H B' m' hi e g s => ?_, fun H B' m' e g s => ⟨vs, hL H B' m' e g s, Nat.le_of_eq hl⟩, fun i x v H H' B' m' ds σ hx e g s st hy Q q => ?_⟩
  · have hi' : i < vs.length := by omega
    exact ⟨vs, vs[i], hL H B' m' e g s, List.getElem?_eq_getElem hi'⟩
  · obtain ⟨rfl, y2⟩ := hy
    obtain ⟨w, h1, h2⟩ := dqa_some hd hx
    have h3 := y2 vs (hL H' B' m' e g s)
    rw [h1] at h3
    rw [← Option.some.inj h3]
    exact tg_name s st (dp_mono e h2) Q q
theorem src_L {xs : List α} {j : Nat} (h : Ev K tl ds m (.da (dL f xs)) m1) : Src K (iList K tl) (gName j) ds m m1 (fun _ => True) xs (fun x ds => ds.set j (.da (f x))) [j] := fun B H σ s st R q => h B H σ s st _ fun v B1 H1 t1 s1 d1 => by
  obtain ⟨p, vs, rfl, hp, ha⟩ := lst_of d1
  exact ⟨p, rfl, ⟨vs, SqL.of (s1.ext _ _ hp)⟩, q _ B1 H1 t1 s1 (turns_list (fun H B' m' e _ s => SqL.of (s.ext _ _ (e _ _ hp))) ha)⟩
/-- a cell that the loop leaves as it is -/
theorem src_C {xs : List α} {j : Nat} {l : Addr} (i : Nat) (h : Ev K tl ds m (.rf l) m1) (hj : m1[i]? = some (l, .ls (xs.map f))) : Src K (iList K tl) (gName j) ds m m1 (fun m' => m'[i]? = some (l, .ls (xs.map f))) xs (fun x ds => ds.set j (.da (f x))) [j] := fun B H σ s st R q => h B H σ s st _ fun v B1 H1 t1 s1 d1 => by
  have e : v = .ref l := d1
  subst e
  obtain ⟨vs, hp, ha⟩ := s1.ls hj
  refine ⟨l, rfl, ⟨vs, SqL.of hp⟩, q _ B1 H1 t1 s1 ?_⟩
  have hl := dpa_len ha
  rw [List.length_map] at hl
  refine ⟨fun i H B' m' hi e g s => ?_, fun H B' m' e g s => ?_, fun i x v H H' B' m' ds σ hx e g s st hy Q q => ?_⟩
  · obtain ⟨ws, h1, h2⟩ := s.ls g
    have hl2 := dpa_len h2
    rw [List.length_map] at hl2
    have hi' : i < ws.length := by omega
    exact ⟨ws, ws[i], SqL.of h1, List.getElem?_eq_getElem hi'⟩
  · obtain ⟨ws, h1, h2⟩ := s.ls g
    have hl2 := dpa_len h2
    rw [List.length_map] at hl2
    exact ⟨ws, SqL.of h1, Nat.le_of_eq hl2⟩
  · obtain ⟨rfl, y2⟩ := hy
    obtain ⟨ws, h1, h2⟩ := s.ls g
    obtain ⟨w, h3, h4⟩ := dqa_some h2 hx
    have h5 := y2 ws (SqL.of h1)
    rw [h3] at h5
    rw [← Option.some.inj h5]
    exact tg_name s st h4 Q q
theorem src_U {xs : List α} {j : Nat} (h : Ev K tl ds m (.da (dU f xs)) m1) : Src K (iTup K tl) (gName j) ds m m1 (fun _ => True) xs (fun x ds => ds.set j (.da (f x))) [j] := fun B H σ s st R q => h B H σ s st _ fun v B1 H1 t1 s1 d1 => by
  obtain ⟨p, vs, rfl, hp, ha⟩ := tup_of d1
  have hl := dpa_len ha
  rw [List.length_map] at hl
  have hL : ∀ {H B' m'}, Ex B1 B' → SOk K B' m' H → SqT K H p vs := fun e s => SqT.of (s.ext _ _ (e _ _ hp))
  refine ⟨p, rfl, ⟨vs, SqT.of (s1.ext _ _ hp)⟩, q _ B1 H1 t1 s1 ⟨fun i H B' m' hi e g s => ?_, fun H B' m' e g s => ⟨vs, hL e s, Nat.le_of_eq hl⟩, fun i x v H H' B' m' ds σ hx e g s st hy Q q => ?_⟩⟩
  · have hi' : i < vs.length := by omega
    exact ⟨vs, vs[i], hL e s, List.getElem?_eq_getElem hi'⟩
  · obtain ⟨rfl, y2⟩ := hy
    obtain ⟨w, h1, h2⟩ := dqa_some ha hx
    have h3 := y2 vs (hL e s)
    rw [h1] at h3
    rw [← Option.some.inj h3]
    exact tg_name s st (dp_mono e h2) Q q
theorem ints_of1 {vs : List V} {i : Int} (h : SdAll K B [.da (dI i)] vs) : vs = [.int i] := by
  obtain ⟨v, rfl, d⟩ := sda1 h
  rw [int_of d]
theorem ints_of2 {vs : List V} {i j : Int} (h : SdAll K B [.da (dI i), .da (dI j)] vs) : vs = [.int i, .int j] := by
  obtain ⟨v, w, rfl, d, e⟩ := sda2 h
  rw [int_of d, int_of e]
theorem turns_rng {B1 : Hp} {lo : Int} {n : Nat} {j : Nat} : Turns K (Itr lo n) (gName j) B1 G ((List.range n).map fun (i : Nat) => lo + (i : Int)) (fun x ds => ds.set j (.da (dI x))) [j] := by
  refine ⟨fun i H B' m' hi e g s => ?_, fun H B' m' e g s => ?_, fun i x v H H' B' m' ds σ hx e g s st hy Q q => ?_⟩
  · rw [List.length_map, List.length_range] at hi
    exact hi
  · rw [List.length_map, List.length_range]
    exact Nat.le_refl _
  · obtain ⟨rfl, rfl⟩ := hy
    rw [List.getElem?_map, Option.map_eq_some_iff] at hx
    obtain ⟨k, h1, h2⟩ := hx
    obtain ⟨h3, h4⟩ := List.getElem?_eq_some_iff.mp h1
    rw [List.getElem_range] at h4
    subst h4 h2
    exact tg_name s st (.int _) Q q
theorem src_R1 {b : Int} {xs : List Int} {j : Nat} (h : EvA K ta ds m [.da (dI b)] m1) (hx : rngG 0 b = some xs) : Src K (iRng1 ta) (gName j) ds m m1 (fun _ => True) xs (fun x ds => ds.set j (.da (dI x))) [j] := fun B H σ s st R q => h B H σ s st _ fun vs B1 H1 t1 s1 d1 => by
  obtain ⟨⟨_, _, h3, h4⟩, rfl⟩ := rngG_some hx
  refine ⟨b, ints_of1 d1, h3, h4, q _ B1 H1 t1 s1 ?_⟩
  unfold rng
  rw [Int.sub_zero]
  exact turns_rng
theorem src_R2 {a b : Int} {xs : List Int} {j : Nat} (h : EvA K ta ds m [.da (dI a), .da (dI b)] m1) (hx : rngG a b = some xs) : Src K (iRng2 ta) (gName j) ds m m1 (fun _ => True) xs (fun x ds => ds.set j (.da (dI x))) [j] := fun B H σ s st R q => h B H σ s st _ fun vs B1 H1 t1 s1 d1 => by
  obtain ⟨h1, rfl⟩ := rngG_some hx
  exact ⟨a, b, ints_of2 d1, h1, q _ B1 H1 t1 s1 turns_rng⟩
/-- two names for a new pair -/
theorem tg_pair {x y : V} {d e : PyData} {j k : Nat} {σ : L2.St} {B' : Hp} {T : Addr} (s : SOk K B' m' H) (st : StOk K B' ds σ) (hx : Dq B' x d) (hy : Dq B' y e) (hT : H T = none) (Q : L2.St → Hp → Prop)
    (q : ∀ B'' σ2, Tr B' H (keys m') B'' (upd H T (.tup [x, y])) (keys m') → SOk K B'' m' (upd H T (.tup [x, y])) → StOk K B'' ((ds.set j (.da d)).set k (.da e)) σ2 → Sets ([j] ++ [k]) σ σ2 → Q σ2 (upd H T (.tup [x, y]))) :
    gTup K 2 (gCons (gName j) (gCons (gName k) gNil)) (.ref T) σ (upd H T (.tup [x, y])) Q := by
  have hB := fresh_b s hT
  refine ⟨T, [x, y], rfl, SqT.of upd_same, rfl, x, [y], rfl, y, [], rfl, rfl, ?_⟩
  refine q (upd B' T (.tup [x, y])) _ (Tr.data s hT) (s.data hT) ?_ (sets1.trans sets1)
  have ee := Ex.new (o := .tup [x, y]) hB
  exact st_set k (st_set j (st_mono ee st) (sl_of (s := .da d) (dp_mono ee hx))) (sl_of (s := .da e) (dp_mono ee hy))
theorem src_E {xs : List α} {j k : Nat} (h : EvA K ta ds m [.da (dL f xs)] m1) : Src K (iEnum K ta) (gTup K 2 (gCons (gName j) (gCons (gName k) gNil))) ds m m1 (fun _ => True) ((xs.zipIdx).map fun p => ((p.2 : Int), p.1)) (fun p ds => (ds.set j (.da (dI p.1))).set k (.da (f p.2))) ([j] ++ [k]) := fun B H σ s st R q => h B H σ s st _ fun vs B1 H1 t1 s1 d1 => by
  obtain ⟨v, rfl, d⟩ := sda1 d1
  obtain ⟨p, vs, rfl, hp, ha⟩ := lst_of d
  have hl := dpa_len ha
  rw [List.length_map] at hl
  have hL : ∀ {H B' m'}, Ex B1 B' → SOk K B' m' H → SqL K H p vs := fun e s => SqL.of (s.ext _ _ (e _ _ hp))
  refine ⟨p, vs, rfl, SqL.of (s1.ext _ _ hp), q _ B1 H1 t1 s1 ⟨fun i H B' m' hi e g s => ?_, fun H B' m' e g s => ⟨vs, hL e s, ?_⟩, fun i x v H H' B' m' ds σ hx e g s st hy Q q => ?_⟩⟩
  · rw [List.length_map, List.length_zipIdx] at hi
    have hi' : i < vs.length := by omega
    exact ⟨vs, vs[i], hL e s, List.getElem?_eq_getElem hi'⟩
  · rw [List.length_map, List.length_zipIdx]
    exact Nat.le_of_eq hl
  · obtain ⟨T, w, rfl, hT, rfl, y2⟩ := hy
    rw [List.getElem?_map, Option.map_eq_some_iff] at hx
    obtain ⟨pr, h1, h2⟩ := hx
    rw [List.getElem?_zipIdx, Option.map_eq_some_iff] at h1
    obtain ⟨a, h3, h4⟩ := h1
    obtain ⟨w', h5, h6⟩ := dqa_some ha h3
    have h7 := y2 vs (hL e s)
    rw [h5] at h7
    have e7 := Option.some.inj h7
    subst e7 h4 h2
    refine tg_pair s st ?_ (dp_mono e h6) hT Q q
    show Dq B' (.int (i : Nat)) (.int (((0 + i : Nat)) : Int))
    rw [Nat.zero_add]
    exact .int _
theorem zip_some {xs : List α} {ys : List β} {i : Nat} {p : α × β} (h : (xs.zip ys)[i]? = some p) : xs[i]? = some p.1 ∧ ys[i]? = some p.2 := by
  rw [List.getElem?_zip_eq_some] at h
  exact h
theorem src_ZL {xs : List α} {ys : List β} {j k : Nat} (h : EvA K ta ds m [.da (dL f xs), .da (dL f2 ys)] m1) : Src K (RZ.iZipA K ta) (gTup K 2 (gCons (gName j) (gCons (gName k) gNil))) ds m m1 (fun _ => True) (xs.zip ys) (fun p ds => (ds.set j (.da (f p.1))).set k (.da (f2 p.2))) ([j] ++ [k]) := fun B H σ s st R q => h B H σ s st _ fun vs B1 H1 t1 s1 d1 => by
  obtain ⟨v, w, rfl, d, d'⟩ := sda2 d1
  obtain ⟨p, vs, rfl, hp, ha⟩ := lst_of d
  obtain ⟨p2, vs2, rfl, hp2, ha2⟩ := lst_of d'
  have hl := dpa_len ha
  have hl2 := dpa_len ha2
  rw [List.length_map] at hl hl2
  have hL : ∀ {H B' m'}, Ex B1 B' → SOk K B' m' H → SqL K H p vs := fun e s => SqL.of (s.ext _ _ (e _ _ hp))
  have hL2 : ∀ {H B' m'}, Ex B1 B' → SOk K B' m' H → SqL K H p2 vs2 := fun e s => SqL.of (s.ext _ _ (e _ _ hp2))
  refine ⟨p, p2, vs, vs2, rfl, Or.inl ⟨SqL.of (s1.ext _ _ hp), SqL.of (s1.ext _ _ hp2), q _ B1 H1 t1 s1 ⟨fun i H B' m' hi e g s => ?_, fun H B' m' e g s => ⟨vs, vs2, hL e s, hL2 e s, ?_⟩, fun i x v H H' B' m' ds σ hx e g s st hy Q q => ?_⟩⟩⟩
  · rw [List.length_zip] at hi
    have hi' : i < vs.length := by omega
    have hi2 : i < vs2.length := by omega
    exact ⟨vs, vs2, vs[i], vs2[i], hL e s, hL2 e s, List.getElem?_eq_getElem hi', List.getElem?_eq_getElem hi2⟩
  · rw [List.length_zip]
    omega
  · obtain ⟨T, u, u2, rfl, hT, rfl, y1, y2⟩ := hy
    obtain ⟨h1, h2⟩ := zip_some hx
    obtain ⟨w1, h3, h4⟩ := dqa_some ha h1
    obtain ⟨w2, h5, h6⟩ := dqa_some ha2 h2
    have h7 := y1 vs (hL e s)
    have h8 := y2 vs2 (hL2 e s)
    rw [h3] at h7
    rw [h5] at h8
    have e7 := Option.some.inj h7
    have e8 := Option.some.inj h8
    subst e7 e8
    exact tg_pair s st (dp_mono e h4) (dp_mono e h6) hT Q q
theorem src_ZU {xs : List α} {ys : List β} {j k : Nat} (h : EvA K ta ds m [.da (dU f xs), .da (dU f2 ys)] m1) : Src K (RZ.iZipA K ta) (gTup K 2 (gCons (gName j) (gCons (gName k) gNil))) ds m m1 (fun _ => True) (xs.zip ys) (fun p ds => (ds.set j (.da (f p.1))).set k (.da (f2 p.2))) ([j] ++ [k]) := fun B H σ s st R q => h B H σ s st _ fun vs B1 H1 t1 s1 d1 => by
  obtain ⟨v, w, rfl, d, d'⟩ := sda2 d1
  obtain ⟨p, vs, rfl, hp, ha⟩ := tup_of d
  obtain ⟨p2, vs2, rfl, hp2, ha2⟩ := tup_of d'
  have hl := dpa_len ha
  have hl2 := dpa_len ha2
  rw [List.length_map] at hl hl2
  have hL : ∀ {H B' m'}, Ex B1 B' → SOk K B' m' H → SqT K H p vs := fun e s => SqT.of (s.ext _ _ (e _ _ hp))
  have hL2 : ∀ {H B' m'}, Ex B1 B' → SOk K B' m' H → SqT K H p2 vs2 := fun e s => SqT.of (s.ext _ _ (e _ _ hp2))
  refine ⟨p, p2, vs, vs2, rfl, Or.inr ⟨SqT.of (s1.ext _ _ hp), SqT.of (s1.ext _ _ hp2), q _ B1 H1 t1 s1 ⟨fun i H B' m' hi e g s => ?_, fun H B' m' e g s => ⟨vs, vs2, hL e s, hL2 e s, ?_⟩, fun i x v H H' B' m' ds σ hx e g s st hy Q q => ?_⟩⟩⟩
  · rw [List.length_zip] at hi
    have hi' : i < vs.length := by omega
    have hi2 : i < vs2.length := by omega
    exact ⟨vs, vs2, vs[i], vs2[i], hL e s, hL2 e s, List.getElem?_eq_getElem hi', List.getElem?_eq_getElem hi2⟩
  · rw [List.length_zip]
    omega
  · obtain ⟨T, u, u2, rfl, hT, rfl, y1, y2⟩ := hy
    obtain ⟨h1, h2⟩ := zip_some hx
    obtain ⟨w1, h3, h4⟩ := dqa_some ha h1
    obtain ⟨w2, h5, h6⟩ := dqa_some ha2 h2
    have h7 := y1 vs (hL e s)
    have h8 := y2 vs2 (hL2 e s)
    rw [h3] at h7
    rw [h5] at h8
    have e7 := Option.some.inj h7
    have e8 := Option.some.inj h8
    subst e7 e8
    exact tg_pair s st (dp_mono e h4) (dp_mono e h6) hT Q q
/-- a list of pairs walked, unpacked -/
theorem src_LP {xs : List (α × β)} {j k : Nat} (h : Ev K tl ds m (.da (dL (dP f f2) xs)) m1) : Src K (iList K tl) (gTup K 2 (gCons (gName j) (gCons (gName k) gNil))) ds m m1 (fun _ => True) xs (fun p ds => (ds.set j (.da (f p.1))).set k (.da (f2 p.2))) ([j] ++ [k]) := fun B H σ s st R q => h B H σ s st _ fun v B1 H1 t1 s1 d1 => by
  obtain ⟨p, vs, rfl, hp, ha⟩ := lst_of d1
  have hl := dpa_len ha
  rw [List.length_map] at hl
  have hL : ∀ {H B' m'}, Ex B1 B' → SOk K B' m' H → SqL K H p vs := fun e s => SqL.of (s.ext _ _ (e _ _ hp))
  refine ⟨p, rfl, ⟨vs, SqL.of (s1.ext _ _ hp)⟩, q _ B1 H1 t1 s1 ⟨fun i H B' m' hi e g s => ?_, fun H B' m' e g s => ⟨vs, hL e s, Nat.le_of_eq hl⟩, fun i x v H H' B' m' ds σ hx e g s st hy Q q => ?_⟩⟩
  · have hi' : i < vs.length := by omega
    exact ⟨vs, vs[i], hL e s, List.getElem?_eq_getElem hi'⟩
  · obtain ⟨rfl, y2⟩ := hy
    obtain ⟨w, h1, h2⟩ := dqa_some ha hx
    have h3 := y2 vs (hL e s)
    rw [h1] at h3
    have e3 := Option.some.inj h3
    subst e3
    obtain ⟨T, x1, x2, rfl, h4, h5, h6⟩ := pair_of (K := K) (show SdOk K B1 (.da (dP f f2 x)) w from h2)
    refine ⟨T, [x1, x2], rfl, SqT.of (s.ext _ _ (e _ _ h4)), rfl, x1, [x2], rfl, x2, [], rfl, rfl, ?_⟩
    exact q B' _ (Tr.refl _ _ _) s (st_set k (st_set j st (sl_of (s := .da (f x.1)) (dp_mono e h5))) (sl_of (s := .da (f2 x.2)) (dp_mono e h6))) (sets1.trans sets1)
end

/-! ### comprehensions -/
section
variable {α β S : Type}
/-- [e for x in xs]: each element in turn, a state goes along -/
def mapS (step : S → α → Option (β × S)) : S → List α → Option (List β × S)
  | s, [] => some ([], s)
  | s, x :: xs => (step s x).bind fun p => (mapS step p.2 xs).bind fun q => some (p.1 :: q.1, q.2)
def mapO (step : α → Option β) : List α → Option (List β)
  | [] => some []
  | x :: xs => (step x).bind fun y => (mapO step xs).bind fun ys => some (y :: ys)
/-- with a test -/
def filO (test : α → Option Bool) (step : α → Option β) : List α → Option (List β)
  | [] => some []
  | x :: xs => (test x).bind fun b => cond b ((step x).bind fun y => (filO test step xs).bind fun ys => some (y :: ys)) (filO test step xs)
end
section
variable {K : PySem.W.Frag} {B H : Hp} {ds : List SD} {m m1 m2 m' : M} {α β S : Type} {f : α → PyData} {f2 : β → PyData} {te : TE} {tt : TT} {wi : TI} {g : TG} {G : M → Prop}
def wipeD (ds : List SD) : List Nat → List SD
  | [] => ds
  | v :: vs => (wipeD ds vs).set v .un
theorem st_wipe {σ : L2.St} (h : StOk K B ds σ) : ∀ vs : List Nat, StOk K B (wipeD ds vs) (wipe σ vs)
  | [] => h
  | v :: vs => st_set v (st_wipe h vs) (show SlOk K B .un none from True.intro)
theorem wipe_get (σ : L2.St) : ∀ (vs : List Nat) (i : Nat), (wipe σ vs)[i]? = if i ∈ vs ∧ i < σ.length then some none else σ[i]?
  | [], i => by simp [wipe]
  | v :: vs, i => by
    show ((wipe σ vs).set v none)[i]? = _
    by_cases e : v = i
    · subst e
      by_cases h : v < σ.length
      · rw [List.getElem?_set_self (by rw [wipe_length]; exact h), if_pos ⟨List.mem_cons_self, h⟩]
      · rw [List.getElem?_eq_none (by rw [List.length_set, wipe_length]; omega), if_neg (fun z => h z.2), List.getElem?_eq_none (by omega)]
    · rw [List.getElem?_set_ne e, wipe_get σ vs i]
      have : (i ∈ v :: vs ∧ i < σ.length) ↔ (i ∈ vs ∧ i < σ.length) := by
        rw [List.mem_cons]
        exact ⟨fun z => ⟨z.1.resolve_left (fun q => e q.symm), z.2⟩, fun z => ⟨.inr z.1, z.2⟩⟩
      simp only [this]
theorem wipe_sets {σ σ2 : L2.St} {js vs : List Nat} (h : Sets js (wipe σ vs) σ2) (hs : ∀ j ∈ js, j ∈ vs) : wipe σ2 vs = wipe σ vs := by
  have hl : σ2.length = σ.length := h.1.trans (wipe_length σ vs)
  refine List.ext_getElem? fun i => ?_
  rw [wipe_get σ2, wipe_get σ, hl]
  by_cases hi : i ∈ vs ∧ i < σ.length
  · rw [if_pos hi, if_pos hi]
  · rw [if_neg hi, if_neg hi]
    by_cases hv : i ∈ vs
    · have h2 : ¬ i < σ.length := fun z => hi ⟨hv, z⟩
      rw [List.getElem?_eq_none (by omega), List.getElem?_eq_none (by omega)]
    · rw [h.2 i (fun z => hv (hs i z)), wipe_get, if_neg hi]
/-- the general form: the elements go one by one, the cells mF s with the state -/
theorem ev_lcCore {items : List α} {up : α → List SD → List SD} {js vs : List Nat} (mF : S → M) (test : α → Bool) (step : S → α → β → S → Prop)
    (hs : Src K wi g ds m m1 G items up js) (hjs : ∀ j ∈ js, j ∈ vs) (hG : ∀ s c, G (mF s ++ c)) (hn : items.length ≤ 16000000)
    (body : ∀ s x, x ∈ items → EvT K tt (up x (wipeD ds vs)) (mF s) (test x) (mF s) ∧ (test x = true → ∀ y s', step s x y s' → Ev K te (up x (wipeD ds vs)) (mF s) (.da (f2 y)) (mF s')))
    (run : S → List α → List β → S → Prop) (h0 : ∀ s xs ys sN, run s xs ys sN → match xs with
      | [] => ys = [] ∧ sN = s
      | x :: r => (test x = true → ∃ y ys' s', ys = y :: ys' ∧ step s x y s' ∧ run s' r ys' sN) ∧ (test x = false → run s r ys sN))
    {s0 sN : S} {out : List β} (hm : m1 = mF s0) (hr : run s0 items out sN) :
    ∀ B H σ, SOk K B m H → StOk K B ds σ → ∀ Q : VK, (∀ p B2 H2, Tr B H (keys m) B2 H2 (keys (mF sN ++ [(p, .ls (out.map f2))])) → SOk K B2 (mF sN ++ [(p, .ls (out.map f2))]) H2 → H p = none → Q (.ref p) H2) → tLc wi g tt te vs σ H Q := by
  intro B H σ s st Q q
  subst hm
  refine hs B H σ s st _ fun J B1 H1 t1 s1 T D hD => ?_
  -- W: what is made so far, what is left
  refine ⟨fun i k H' => k = items.length - i ∧ i ≤ items.length ∧ ∃ B' st' done left, out = done ++ left ∧ done.length ≤ i ∧ run st' (items.drop i) left sN ∧ Tr B H (keys m) B' H' (keys (mF st' ++ [(D, .ls (done.map f2))])) ∧ Ex B1 B' ∧ SOk K B' (mF st' ++ [(D, .ls (done.map f2))]) H',
    ⟨items.length, by simp, Nat.zero_le _, B1, s0, [], out, rfl, Nat.zero_le _, hr, t1.trans (Tr.cell s1 hD), Ex.refl _, s1.cell hD (show CdOk K B1 (.ls (([] : List β).map f2)) (.lst []) from DqAll.nil)⟩, ?_⟩
  rintro i k H' ⟨rfl, hi, B', st', done, left, eo, hdl, hrun, tr, eB, sk⟩
  by_cases hlt : i < items.length
  · refine .inr ⟨T.1 i H' B' _ hlt eB (hG _ _) sk, fun H'' => i + 1 ≤ items.length ∧ ∃ B' st' done left, out = done ++ left ∧ done.length ≤ i + 1 ∧ run st' (items.drop (i + 1)) left sN ∧ Tr B H (keys m) B' H'' (keys (mF st' ++ [(D, .ls (done.map f2))])) ∧ Ex B1 B' ∧ SOk K B' (mF st' ++ [(D, .ls (done.map f2))]) H'',
      fun H'' p => ⟨items.length - (i + 1), by omega, rfl, p⟩, fun x H'' hy => ?_⟩
    have hx : items[i]? = some items[i] := List.getElem?_eq_getElem hlt
    have hmem : items[i] ∈ items := List.getElem_mem hlt
    have hdrop : items.drop i = items[i] :: items.drop (i + 1) := List.drop_eq_getElem_cons hlt
    have hr2 := h0 _ _ _ _ hrun
    rw [hdrop] at hr2
    obtain ⟨hrt, hrf⟩ := hr2
    obtain ⟨bt, be⟩ := body st' items[i] hmem
    refine T.2.2 i items[i] x H' H'' B' _ (wipeD ds vs) (wipe σ vs) hx eB (hG _ _) sk (st_wipe (st_mono (t1.ex.trans eB) st) vs) hy _ fun B2 σ2 t2 s2 st2 hset => ⟨wipe_sets hset hjs, ?_⟩
    refine (bt.frame [(D, .ls (done.map f2))]) B2 H'' σ2 s2 st2 _ fun B3 H3 t3 s3 => ?_
    cases hb : test items[i] with
    | false =>
      refine iteF ⟨hlt, B3, st', done, left, eo, Nat.le_succ_of_le hdl, hrf hb, (tr.trans t2).trans t3, (eB.trans t2.ex).trans t3.ex, s3⟩
    | true =>
      obtain ⟨y, ys', s', el, hstep, hrest⟩ := hrt hb
      refine iteT (((be hb y s' hstep).frame [(D, .ls (done.map f2))]) B3 H3 σ2 s3 (st_mono t3.ex st2) _ fun v B4 H4 t4 s4 d4 => ?_)
      have hjD : (mF s' ++ [(D, CD.ls (done.map f2))])[(mF s').length]? = some (D, .ls (done.map f2)) := by
        rw [List.getElem?_append_right (Nat.le_refl _), Nat.sub_self]
        rfl
      obtain ⟨ws, hw, hwa⟩ := s4.ls hjD
      have hwl := dpa_len hwa
      rw [List.length_map] at hwl
      have hset2 : (mF s' ++ [(D, CD.ls (done.map f2))]).set (mF s').length (D, .ls ((done ++ [y]).map f2)) = mF s' ++ [(D, .ls ((done ++ [y]).map f2))] := by
        rw [List.set_append_right _ _ (Nat.le_refl _), Nat.sub_self]
        rfl
      have hcd : CdOk K B4 (.ls ((done ++ [y]).map f2)) (.lst (ws ++ [v])) := by
        rw [List.map_append]
        exact dqa_app hwa (.cons d4 .nil)
      have t5 := Tr.put s4 hjD hcd
      have s5 := s4.put hjD hcd
      rw [hset2] at t5 s5
      refine ⟨ws, hw, by rw [sizeLine_eq]; omega, hlt, B4, s', done ++ [y], ys', by rw [eo, el, List.append_assoc]; rfl, by rw [List.length_append, List.length_singleton]; omega, hrest, (((tr.trans t2).trans t3).trans t4).trans t5, ((eB.trans t2.ex).trans t3.ex).trans t4.ex, s5⟩
  · have e : i = items.length := by omega
    subst e
    refine .inl ⟨T.2.1 H' B' _ eB (hG _ _) sk, ?_⟩
    have hr2 := h0 _ _ _ _ hrun
    rw [List.drop_length] at hr2
    obtain ⟨rfl, rfl⟩ := hr2
    rw [List.append_nil] at eo
    subst eo
    exact q D B' H' tr sk (by
      cases hh : H D with
      | none => rfl
      | some o => exact absurd hD (t1.grow D (some_ne hh)))
/-- its end: the list a cell, or frozen -/
theorem lc_end {out : List β} {mN : M} (h : ∀ B H σ, SOk K B m H → StOk K B ds σ → ∀ Q : VK, (∀ p B2 H2, Tr B H (keys m) B2 H2 (keys (mN ++ [(p, .ls (out.map f2))])) → SOk K B2 (mN ++ [(p, .ls (out.map f2))]) H2 → H p = none → Q (.ref p) H2) → te σ H Q) : Ev K te ds m (.da (dL f2 out)) mN := fun B H σ s st Q q => h B H σ s st Q fun p B2 H2 t s2 hp => by
  have hj : (mN ++ [(p, CD.ls (out.map f2))])[mN.length]? = some (p, .ls (out.map f2)) := by
    rw [List.getElem?_append_right (Nat.le_refl _), Nat.sub_self]
    rfl
  obtain ⟨ws, h1, h2⟩ := s2.ls hj
  have he : (mN ++ [(p, CD.ls (out.map f2))]).eraseIdx mN.length = mN := by
    rw [List.eraseIdx_append_of_length_le (Nat.le_refl _), Nat.sub_self]
    exact List.append_nil _
  have hB2 : B2 p = none := s2.out (p, .ls (out.map f2)) (List.mem_append_right _ (List.mem_singleton.mpr rfl))
  have t3 := t.frz s2 (fun a ha => by
    obtain ⟨c, hc, e⟩ := List.mem_map.mp ha
    rw [← e]
    exact s.ne hc) (o := .lst ws) hj (fresh_k s hp)
  have s3 := s2.frz hj h1
  rw [he] at t3 s3
  exact q _ _ _ t3 s3 (Dq.lst upd_same (dpa_mono (Ex.new hB2) h2))
theorem en_end {out : List β} {mN : M} (h : ∀ B H σ, SOk K B m H → StOk K B ds σ → ∀ Q : VK, (∀ p B2 H2, Tr B H (keys m) B2 H2 (keys (mN ++ [(p, .ls (out.map f2))])) → SOk K B2 (mN ++ [(p, .ls (out.map f2))]) H2 → H p = none → Q (.ref p) H2) → te σ H Q) : EvN K te ds m (.ls (out.map f2)) mN := fun B H σ s st Q q => h B H σ s st Q fun p B2 H2 t s2 _ => q p B2 H2 t s2

theorem et_yes : EvT K tYes ds m true m := fun B H σ s st Q q => q B H (Tr.refl _ _ _) s
theorem mapO_run {step : α → Option β} {items : List α} : ∀ (s : Unit) (xs : List α) (ys : List β) (sN : Unit), mapO step xs = some ys → match xs with
      | [] => ys = [] ∧ sN = s
      | x :: r => (true = true → ∃ y ys' s', ys = y :: ys' ∧ step x = some y ∧ mapO step r = some ys' ∧ s' = ()) ∧ (true = false → mapO step r = some ys)
  | _, [], ys, _, h => ⟨(Option.some.inj h).symm, rfl⟩
  | _, x :: r, ys, _, h => by
    obtain ⟨y, h1, h⟩ := bindS h
    obtain ⟨ys', h2, h⟩ := bindS h
    exact ⟨fun _ => ⟨y, ys', (), (Option.some.inj h).symm, h1, h2, rfl⟩, fun z => nomatch z⟩
/-- no test, no cells changed -/
theorem lc_map {items : List α} {up : α → List SD → List SD} {js vs : List Nat} {step : α → Option β} {out : List β} (hs : Src K wi g ds m m1 G items up js) (hjs : ∀ j ∈ js, j ∈ vs) (hG : ∀ c, G (m1 ++ c)) (hn : lenG items.length = some ())
    (h : mapO step items = some out) (body : ∀ x y, x ∈ items → step x = some y → Ev K te (up x (wipeD ds vs)) m1 (.da (f2 y)) m1) :
    ∀ B H σ, SOk K B m H → StOk K B ds σ → ∀ Q : VK, (∀ p B2 H2, Tr B H (keys m) B2 H2 (keys (m1 ++ [(p, .ls (out.map f2))])) → SOk K B2 (m1 ++ [(p, .ls (out.map f2))]) H2 → H p = none → Q (.ref p) H2) → tLc wi g tYes te vs σ H Q :=
  ev_lcCore (S := Unit) (fun _ => m1) (fun _ => true) (fun _ x y _ => step x = some y) hs hjs (fun _ => hG) (lenG_some hn) (fun _ x hx => ⟨et_yes, fun _ y _ hy => body x y hx hy⟩)
    (fun _ xs ys _ => mapO step xs = some ys) (fun s xs ys sN hr => by
      have hh := mapO_run (items := items) s xs ys sN hr
      cases xs with
      | nil => exact hh
      | cons x r => exact ⟨fun z => by
          obtain ⟨y, ys', s', h1, h2, h3, _⟩ := hh.1 z
          exact ⟨y, ys', s', h1, h2, h3⟩, fun z => nomatch z⟩) (s0 := ()) (sN := ()) rfl h
/-- a test -/
theorem lc_fil {items : List α} {up : α → List SD → List SD} {js vs : List Nat} {test : α → Bool} {step : α → Option β} {out : List β} (hs : Src K wi g ds m m1 G items up js) (hjs : ∀ j ∈ js, j ∈ vs) (hG : ∀ c, G (m1 ++ c)) (hn : lenG items.length = some ())
    (h : filO (fun x => some (test x)) step items = some out) (bt : ∀ x, x ∈ items → EvT K tt (up x (wipeD ds vs)) m1 (test x) m1) (body : ∀ x y, x ∈ items → test x = true → step x = some y → Ev K te (up x (wipeD ds vs)) m1 (.da (f2 y)) m1) :
    ∀ B H σ, SOk K B m H → StOk K B ds σ → ∀ Q : VK, (∀ p B2 H2, Tr B H (keys m) B2 H2 (keys (m1 ++ [(p, .ls (out.map f2))])) → SOk K B2 (m1 ++ [(p, .ls (out.map f2))]) H2 → H p = none → Q (.ref p) H2) → tLc wi g tt te vs σ H Q :=
  ev_lcCore (S := Unit) (fun _ => m1) test (fun _ x y _ => step x = some y) hs hjs (fun _ => hG) (lenG_some hn) (fun _ x hx => ⟨bt x hx, fun hb y _ hy => body x y hx hb hy⟩)
    (fun _ xs ys _ => filO (fun x => some (test x)) step xs = some ys) (fun s xs ys sN hr => by
      cases xs with
      | nil => exact ⟨(Option.some.inj hr).symm, rfl⟩
      | cons x r =>
        obtain ⟨b, h1, h2⟩ := bindS hr
        have e := Option.some.inj h1
        subst e
        refine ⟨fun z => ?_, fun z => ?_⟩
        · rw [z] at h2
          obtain ⟨y, h3, h2⟩ := bindS h2
          obtain ⟨ys', h4, h2⟩ := bindS h2
          exact ⟨y, ys', (), (Option.some.inj h2).symm, h3, h4⟩
        · rw [z] at h2
          exact h2) (s0 := ()) (sN := ()) rfl h
/-- no test, a state in the cells -/
theorem lc_mapS {items : List α} {up : α → List SD → List SD} {js vs : List Nat} (mF : S → M) {step : S → α → Option (β × S)} {s0 sN : S} {out : List β} (hs : Src K wi g ds m m1 G items up js) (hm : m1 = mF s0) (hjs : ∀ j ∈ js, j ∈ vs) (hG : ∀ s c, G (mF s ++ c)) (hn : lenG items.length = some ())
    (h : mapS step s0 items = some (out, sN)) (body : ∀ s x y s', x ∈ items → step s x = some (y, s') → Ev K te (up x (wipeD ds vs)) (mF s) (.da (f2 y)) (mF s')) :
    ∀ B H σ, SOk K B m H → StOk K B ds σ → ∀ Q : VK, (∀ p B2 H2, Tr B H (keys m) B2 H2 (keys (mF sN ++ [(p, .ls (out.map f2))])) → SOk K B2 (mF sN ++ [(p, .ls (out.map f2))]) H2 → H p = none → Q (.ref p) H2) → tLc wi g tYes te vs σ H Q :=
  ev_lcCore mF (fun _ => true) (fun s x y s' => step s x = some (y, s')) hs hjs hG (lenG_some hn) (fun s x hx => ⟨et_yes, fun _ y s' hy => body s x y s' hx hy⟩)
    (fun s xs ys sN => mapS step s xs = some (ys, sN)) (fun s xs ys sN hr => by
      cases xs with
      | nil =>
        have e := Option.some.inj hr
        injection e with e1 e2
        exact ⟨e1.symm, e2.symm⟩
      | cons x r =>
        obtain ⟨p, h1, h2⟩ := bindS hr
        obtain ⟨q, h3, h2⟩ := bindS h2
        have e := Option.some.inj h2
        injection e with e1 e2
        subst e1 e2
        exact ⟨fun _ => ⟨p.1, q.1, p.2, rfl, h1, h3⟩, fun z => nomatch z⟩) hm h
end
end FC
set_option maxHeartbeats 400000
/-! FU: statements, loops, dicts. -/
namespace FC
open PySem PySem.Spec PyProof.Rows L2 Evl

/-- where a def's body started -/
structure Fx where
  K : PySem.W.Frag
  B0 : Hp
  H0 : Hp
  k0 : List Addr
  hk : ∀ a ∈ k0, H0 a ≠ none
  lo : Hp
abbrev Fx.at (F : Fx) (lo : Hp) : Fx := { F with lo := lo }
def At (F : Fx) (ds : List SD) (m : M) : L2.St → Hp → Prop := fun σ H => ∃ B, StOk F.K B ds σ ∧ SOk F.K B m H ∧ Tr F.B0 F.H0 F.k0 B H (keys m) ∧ Ex F.lo B
def Wp (F : Fx) (ts : TS) (D : Ends) (ds : List SD) (m : M) : Prop := ∀ σ H, At F ds m σ H → ts D σ H
/-- what is wanted where the def hands back -/
def Fin (F : Fx) (D : Ends) (R : SD → M → Prop) : Prop := ∀ v B H r m2, R r m2 → Tr F.B0 F.H0 F.k0 B H (keys m2) → SOk F.K B m2 H → SdOk F.K B r v → D.rt v H

section
variable {F : Fx} {D : Ends} {ds ds' es : List SD} {m m1 m2 m' : M} {te ta tb tv : TE} {tu tz tw ts : TS} {tt : TT} {r : SD} {R : SD → M → Prop} {α β γ S : Type} {f : α → PyData} {g : β → PyData} {h : γ → PyData}
theorem wp_weak (w : Wks ds es) (k : Wp F ts D es m) : Wp F ts D ds m := fun σ H ⟨B, st, s, t, lo⟩ => k σ H ⟨B, w.st st, s, t, lo⟩
theorem at_weak {σ : L2.St} {H : Hp} (w : Wks ds es) (a : At F ds m σ H) : At F es m σ H := by
  obtain ⟨B, st, s, t, lo⟩ := a
  exact ⟨B, w.st st, s, t, lo⟩
theorem wp_asg {i : Nat} (h : Ev F.K te ds m r m1) (k : Wp F tz D (ds.set i r) m1) : Wp F (tSeq (tAsg te (gName i)) tz) D ds m := fun σ H ⟨B, st, s, t, lo⟩ =>
  h B H σ s st _ fun v B2 H2 t2 s2 d => k _ H2 ⟨B2, st_set i (st_mono t2.ex st) (sl_of d), s2, t.trans t2, lo.trans t2.ex⟩
theorem wp_asgN {i : Nat} {c : CD} (h : EvN F.K te ds m c m1) (k : ∀ p, p ∉ F.k0 → Wp F tz D (ds.set i (.rf p)) (m1 ++ [(p, c)])) (hm : keys m1 = keys m) : Wp F (tSeq (tAsg te (gName i)) tz) D ds m := fun σ H ⟨B, st, s, t, lo⟩ =>
  h B H σ s st _ fun p B2 H2 t2 s2 => by
    have hp : H p = none := by
      have h1 : p ∈ keys (m1 ++ [(p, c)]) := by rw [keys_app]; exact List.mem_append_right _ (List.mem_singleton.mpr rfl)
      refine (t2.kys p h1).resolve_left fun z => ?_
      have nd := s2.nd
      rw [keys_app] at nd
      exact (List.nodup_append.mp nd).2.2 p (by rw [hm]; exact z) p (List.mem_singleton.mpr rfl) rfl
    refine k p (fun z => ?_) _ H2 ⟨B2, st_set i (st_mono t2.ex st) (sl_of (s := .rf p) rfl), s2, t.trans t2, lo.trans t2.ex⟩
    exact absurd hp (t.grow p (F.hk p z))
theorem wp_expr (h : Ev F.K te ds m r m1) (k : Wp F tz D ds m1) : Wp F (tSeq (tDrop te) tz) D ds m := fun σ H ⟨B, st, s, t, lo⟩ =>
  h B H σ s st _ fun v B2 H2 t2 s2 d => k _ H2 ⟨B2, st_mono t2.ex st, s2, t.trans t2, lo.trans t2.ex⟩
theorem wp_if {b : Bool} (h : EvT F.K tt ds m b m1) (h1 : b = true → Wp F tu { D with nx := tz D } ds m1) (h2 : b = false → Wp F tw { D with nx := tz D } ds m1) : Wp F (tSeq (tIfS tt tu tw) tz) D ds m := fun σ H ⟨B, st, s, t, lo⟩ =>
  h B H σ s st _ fun B2 H2 t2 s2 => by
    cases b with
    | true => exact iteT (h1 rfl σ H2 ⟨B2, st_mono t2.ex st, s2, t.trans t2, lo.trans t2.ex⟩)
    | false => exact iteF (h2 rfl σ H2 ⟨B2, st_mono t2.ex st, s2, t.trans t2, lo.trans t2.ex⟩)
theorem wp_cut (k : Wp F tz D ds' m') (h : Wp F tu { D with nx := At F ds' m' } ds m) : Wp F (tCut tu tz) D ds m := fun σ H a => ⟨At F ds' m', h σ H a, k⟩
theorem wp_cutIf {b : Bool} (k : Wp F tz D ds' m') (h : EvT F.K tt ds m b m1) (h1 : b = true → Wp F tu { D with nx := At F ds' m' } ds m1) (h2 : b = false → Wp F tw { D with nx := At F ds' m' } ds m1) : Wp F (tCut (tIfS tt tu tw) tz) D ds m :=
  wp_cut (ds' := ds') (m' := m') k fun σ H ⟨B, st, s, t, lo⟩ => h B H σ s st _ fun B2 H2 t2 s2 => by
    cases b with
    | true => exact iteT (h1 rfl σ H2 ⟨B2, st_mono t2.ex st, s2, t.trans t2, lo.trans t2.ex⟩)
    | false => exact iteF (h2 rfl σ H2 ⟨B2, st_mono t2.ex st, s2, t.trans t2, lo.trans t2.ex⟩)
theorem wp_next (h : ∀ σ H, At F ds m σ H → D.nx σ H) : Wp F tNext D ds m := h
theorem wp_nextW (w : Wks ds es) (e : D.nx = At F es m) : Wp F tNext D ds m := fun σ H a => by
  show D.nx σ H
  rw [e]
  exact at_weak w a
theorem wp_ret {D' : Ends} (h : Ev F.K te ds m r m1) (hf : Fin F D R) (hr : R r m1) : Wp F (tSeq (tRet te) tz) D ds m := fun σ H ⟨B, st, s, t, lo⟩ =>
  h B H σ s st _ fun v B2 H2 t2 s2 d => hf v B2 H2 r m1 hr (t.trans t2) s2 d
theorem wp_retN (hf : Fin F D R) (hr : R (.da .none) m) : Wp F (tSeq tRetN tz) D ds m := fun σ H ⟨B, st, s, t, lo⟩ => hf _ B H _ m hr t s .non
theorem wp_break (h : ∀ σ H, At F ds m σ H → D.bk σ H) : Wp F (tSeq tBreak tz) D ds m := h
theorem wp_cont (h : ∀ σ H, At F ds m σ H → D.ct σ H) : Wp F (tSeq tCont tz) D ds m := h
/-- x += e of ints -/
theorem wp_aug {i : Nat} {a b : Int} {fi : Int → Int → Int} (hx : ds[i]? = some (.da (dI a))) (h : Ev F.K te ds m (.da (dI b)) m1) (k : Wp F tz D (ds.set i (.da (dI (fi a b)))) m1) : Wp F (tSeq (tAug i te (ipI fi)) tz) D ds m := fun σ H ⟨B, st, s, t, lo⟩ => by
  obtain ⟨o, e, w⟩ := st_get st hx
  obtain ⟨v, rfl, w⟩ := sl_some (s := .da (dI a)) (fun z => nomatch z) w
  refine ⟨v, e, h B H σ s st _ fun v2 B2 H2 t2 s2 d => ⟨a, b, int_of (K := F.K) (show SdOk F.K B (.da (dI a)) v from w), int_of d, ?_⟩⟩
  exact k _ H2 ⟨B2, st_set i (st_mono t2.ex st) (sl_of (s := .da (dI (fi a b))) (.int _)), s2, t.trans t2, lo.trans t2.ex⟩
/-- a, b = a pair -/
theorem wp_unp2 {i j : Nat} {p : α × β} (h : Ev F.K te ds m (.da (dP f g p)) m1) (k : Wp F tz D ((ds.set i (.da (f p.1))).set j (.da (g p.2))) m1) : Wp F (tSeq (tAsg te (gTup F.K 2 (gCons (gName i) (gCons (gName j) gNil)))) tz) D ds m := fun σ H ⟨B, st, s, t, lo⟩ =>
  h B H σ s st _ fun v B2 H2 t2 s2 d => by
    obtain ⟨T, x1, x2, rfl, h4, h5, h6⟩ := pair_of d
    refine ⟨T, [x1, x2], rfl, SqT.of (s2.ext _ _ h4), rfl, x1, [x2], rfl, x2, [], rfl, rfl, ?_⟩
    exact k _ H2 ⟨B2, st_set j (st_set i (st_mono t2.ex st) (sl_of (s := .da (f p.1)) h5)) (sl_of (s := .da (g p.2)) h6), s2, t.trans t2, lo.trans t2.ex⟩
/-- a, b, c = a triple -/
theorem wp_unp3 {i j l : Nat} {p : α × β × γ} (hh : Ev F.K te ds m (.da (d3 f g h p)) m1) (k : Wp F tz D (((ds.set i (.da (f p.1))).set j (.da (g p.2.1))).set l (.da (h p.2.2))) m1) : Wp F (tSeq (tAsg te (gTup F.K 3 (gCons (gName i) (gCons (gName j) (gCons (gName l) gNil))))) tz) D ds m := fun σ H ⟨B, st, s, t, lo⟩ =>
  hh B H σ s st _ fun v B2 H2 t2 s2 d => by
    obtain ⟨T, vs, rfl, h4, h5⟩ := dq_tuple (show SdOk F.K B2 (.da (.tuple [f p.1, g p.2.1, h p.2.2])) v from d)
    cases h5 with
    | cons a1 r1 =>
      cases r1 with
      | cons a2 r2 =>
        cases r2 with
        | cons a3 r3 =>
          cases r3
          refine ⟨T, _, rfl, SqT.of (s2.ext _ _ h4), rfl, _, _, rfl, _, _, rfl, _, _, rfl, rfl, ?_⟩
          exact k _ H2 ⟨B2, st_set l (st_set j (st_set i (st_mono t2.ex st) (sl_of (s := .da (f p.1)) a1)) (sl_of (s := .da (g p.2.1)) a2)) (sl_of (s := .da (h p.2.2)) a3), s2, t.trans t2, lo.trans t2.ex⟩
/-- a list of known length unpacked to two names -/
theorem wp_unpL2 {i j : Nat} {xs : List α} {a b : α} (hh : Ev F.K te ds m (.da (dL f xs)) m1) (hx : xs = [a, b]) (k : Wp F tz D ((ds.set i (.da (f a))).set j (.da (f b))) m1) : Wp F (tSeq (tAsg te (gUnl F.K 2 (gCons (gName i) (gCons (gName j) gNil)))) tz) D ds m := fun σ H ⟨B, st, s, t, lo⟩ =>
  hh B H σ s st _ fun v B2 H2 t2 s2 d => by
    obtain ⟨T, vs, rfl, h4, h5⟩ := lst_of d
    subst hx
    cases h5 with
    | cons a1 r1 =>
      cases r1 with
      | cons a2 r2 =>
        cases r2
        refine ⟨T, _, rfl, SqL.of (s2.ext _ _ h4), rfl, _, _, rfl, _, _, rfl, rfl, ?_⟩
        exact k _ H2 ⟨B2, st_set j (st_set i (st_mono t2.ex st) (sl_of (s := .da (f a)) a1)) (sl_of (s := .da (f b)) a2), s2, t.trans t2, lo.trans t2.ex⟩
/-- a, b = e1, e2 -/
theorem wp_par {i j : Nat} {ta : TA} {a b : SD} (h : EvA F.K ta ds m [a, b] m1) (k : Wp F tz D ((ds.set i a).set j b) m1) : Wp F (tSeq (tPar i j ta) tz) D ds m := fun σ H ⟨B, st, s, t, lo⟩ =>
  h B H σ s st _ fun vs B2 H2 t2 s2 d => by
    obtain ⟨v, w, rfl, d1, d2⟩ := sda2 d
    exact ⟨v, w, rfl, k _ H2 ⟨B2, st_set j (st_set i (st_mono t2.ex st) (sl_of d1)) (sl_of d2), s2, t.trans t2, lo.trans t2.ex⟩⟩
/-- a new cell, told as data from now on -/
theorem wp_frz {i j : Nat} {l : Addr} {dl : List PyData} (hi : ds[i]? = some (.rf l)) (hj : m[j]? = some (l, .ls dl)) (hl : l ∉ F.k0) (k : Wp F ts D (ds.set i (.da (.list dl))) (m.eraseIdx j)) : Wp F ts D ds m := fun σ H ⟨B, st, s, t, lo⟩ => by
  obtain ⟨vs, h1, h2⟩ := s.ls hj
  have hB : B l = none := s.out (l, .ls dl) (List.mem_of_getElem? hj)
  obtain ⟨o, e, w⟩ := st_get st hi
  obtain ⟨v, rfl, w⟩ := sl_some (s := .rf l) (fun z => nomatch z) w
  have ev : v = .ref l := w
  subst ev
  have ee := Ex.new (o := .lst vs) hB
  have st2 := st_set (K := F.K) i (st_mono ee st) (s := .da (.list dl)) (o := some (.ref l)) (Dq.lst upd_same (dpa_mono ee h2))
  rw [set_same e] at st2
  exact k σ H ⟨_, st2, s.frz hj h1, t.frz s F.hk hj hl, lo.trans ee⟩
/-- a cell that is needed no more -/
theorem wp_drop (j : Nat) (k : Wp F ts D ds (m.eraseIdx j)) : Wp F ts D ds m := fun σ H ⟨B, st, s, t, lo⟩ =>
  k σ H ⟨B, st, s.sub (List.eraseIdx_sublist m j), t.sub (fun a z => ((List.eraseIdx_sublist m j).map _).subset z), lo⟩
/-- x[i] = e, x a cell -/
theorem wp_setL {xs ys : List α} {x : α} {i : Int} {l : Addr} (j : Nat) (hv : Ev F.K tv ds m (.da (f x)) m1) (ho : Ev F.K ta ds m1 (.rf l) m2) (hi : Ev F.K tb ds m2 (.da (dI i)) m') (hj : m'[j]? = some (l, .ls (xs.map f))) (hs : setI xs i x = some ys)
    (k : Wp F tz D ds (m'.set j (l, .ls (ys.map f)))) : Wp F (tSeq (tAsg tv (gSub ta tb rSetL)) tz) D ds m := fun σ H ⟨B, st, s, t, lo⟩ =>
  hv B H σ s st _ fun v B1 H1 t1 s1 d1 => ho B1 H1 σ s1 (st_mono t1.ex st) _ fun o B2 H2 t2 s2 d2 => hi B2 H2 σ s2 (st_mono (t1.ex.trans t2.ex) st) _ fun y B3 H3 t3 s3 d3 => by
    obtain ⟨vs, h1, h2⟩ := s3.ls hj
    have hl := dpa_len h2
    rw [List.length_map] at hl
    unfold setI at hs
    obtain ⟨jx, e1, e2⟩ := Option.map_eq_some_iff.mp hs
    refine ⟨l, vs, i, jx, d2, int_of d3, h1, by rw [hl]; exact e1, ?_⟩
    have hcd : CdOk F.K B3 (.ls (ys.map f)) (.lst (vs.set jx v)) := by
      subst e2
      rw [List.map_set]
      exact dqa_set jx h2 (dp_mono (t2.ex.trans t3.ex) d1)
    exact k σ _ ⟨B3, st_mono (t1.ex.trans (t2.ex.trans t3.ex)) st, s3.put hj hcd, (((t.trans t1).trans t2).trans t3).trans (Tr.put s3 hj hcd), lo.trans (t1.ex.trans (t2.ex.trans t3.ex))⟩
end

/-! ### loops -/
section
variable {α S R : Type}
inductive Ctl (S R : Type) where
  | nx (s : S)
  | bk (s : S)
  | rt (r : R)
def forC (step : S → α → Option (Ctl S R)) : S → List α → Option (Ctl S R)
  | s, [] => some (.nx s)
  | s, x :: xs => (step s x).bind fun c => match c with
    | .nx s' => forC step s' xs
    | .bk s' => some (.bk s')
    | .rt r => some (.rt r)
def forF (step : S → α → Option S) : S → List α → Option S
  | s, [] => some s
  | s, x :: xs => (step s x).bind fun s' => forF step s' xs
/-- while: at most n turns -/
def whiF (cond : S → Option Bool) (step : S → Option S) : Nat → S → Option S
  | 0, _ => none
  | n + 1, s => (cond s).bind fun b => match b with
    | true => (step s).bind fun s' => whiF cond step n s'
    | false => some s
end
section
variable {F : Fx} {D : Ends} {ds : List SD} {m m1 : M} {α S R : Type} {wi : TI} {g : TG} {G : M → Prop} {items : List α} {up : α → List SD → List SD} {js : List Nat} {tb tz : TS} {tt : TT}
theorem fin_at {D' : Ends} {R : SD → M → Prop} {lo : Hp} (h : Fin F D R) (e : D'.rt = D.rt) : Fin (F.at lo) D' R := fun v B H r m2 hr t s d => by
  rw [e]
  exact h v B H r m2 hr t s d
theorem wp_forC (dF : S → List SD) (mF : S → M) {step : S → α → Option (Ctl S R)} {s0 : S} {c : Ctl S R} (hs : Src F.K wi g ds m m1 G items up js) (h : forC step s0 items = some c) (hw : Wks ds (dF s0)) (hm : m1 = mF s0) (hG : ∀ s, G (mF s))
    (body : ∀ lo s x c', x ∈ items → step s x = some c' → ∀ D', D'.rt = D.rt → (∀ s', c' = .nx s' → ∀ σ H, At (F.at lo) (dF s') (mF s') σ H → D'.nx σ H) → (∀ s', c' = .nx s' → ∀ σ H, At (F.at lo) (dF s') (mF s') σ H → D'.ct σ H) →
      (∀ s', c' = .bk s' → ∀ σ H, At (F.at lo) (dF s') (mF s') σ H → D'.bk σ H) → (∀ r, c' = .rt r → c = .rt r) → Wp (F.at lo) tb D' (up x (dF s)) (mF s))
    (k : ∀ s, (c = .nx s ∨ c = .bk s) → Wp F tz D (dF s) (mF s)) : Wp F (tSeq (tFor wi g tb) tz) D ds m := fun σ H ⟨B, st, s, t, lo⟩ => by
  subst hm
  refine hs B H σ s st _ fun J B1 H1 t1 s1 T => ?_
  refine ⟨fun i n σ' H' => n = items.length - i ∧ i ≤ items.length ∧ ∃ s', forC step s' (items.drop i) = some c ∧ At (F.at B1) (dF s') (mF s') σ' H',
    ⟨items.length, by simp, Nat.zero_le _, s0, h, B1, hw.st (st_mono t1.ex st), s1, t.trans t1, Ex.refl _⟩, ?_⟩
  have back : ∀ {es mm σ3 H3}, At (F.at B1) es mm σ3 H3 → At F es mm σ3 H3 := fun ⟨B3, a1, a2, a3, a4⟩ => ⟨B3, a1, a2, a3, (lo.trans t1.ex).trans a4⟩
  rintro i n σ' H' ⟨rfl, hi, s', hf, B', st', sk, tr, eB⟩
  by_cases hlt : i < items.length
  · have hx : items[i]? = some items[i] := List.getElem?_eq_getElem hlt
    have hdrop : items.drop i = items[i] :: items.drop (i + 1) := List.drop_eq_getElem_cons hlt
    rw [hdrop] at hf
    obtain ⟨c', hstep, hrest⟩ := bindS hf
    refine .inr ⟨T.1 i H' B' _ hlt eB (hG _) sk, fun σ2 H2 => i + 1 ≤ items.length ∧ ∃ s', forC step s' (items.drop (i + 1)) = some c ∧ At (F.at B1) (dF s') (mF s') σ2 H2,
      fun σ2 H2 p => ⟨items.length - (i + 1), by omega, rfl, p⟩, fun x H'' hy => ?_⟩
    refine T.2.2 i items[i] x H' H'' B' _ (dF s') σ' hx eB (hG _) sk st' hy _ fun B2 σ2 t2 s2 st2 _ => ?_
    refine body B1 s' items[i] c' (List.getElem_mem hlt) hstep _ ?_ ?_ ?_ ?_ ?_ σ2 H'' ⟨B2, st2, s2, tr.trans t2, eB.trans t2.ex⟩
    · rfl
    · rintro s3 rfl σ3 H3 a3
      exact ⟨hlt, s3, hrest, a3⟩
    · rintro s3 rfl σ3 H3 a3
      exact ⟨hlt, s3, hrest, a3⟩
    · rintro s3 rfl σ3 H3 a3
      exact k s3 (.inr (Option.some.inj hrest).symm) σ3 H3 (back a3)
    · rintro r rfl
      exact (Option.some.inj hrest).symm
  · have e : i = items.length := by omega
    subst e
    rw [List.drop_length] at hf
    exact .inl ⟨T.2.1 H' B' _ eB (hG _) sk, k s' (.inl (Option.some.inj hf).symm) σ' H' (back ⟨B', st', sk, tr, eB⟩)⟩
theorem forF_C {step : S → α → Option S} : ∀ (xs : List α) (s t : S), forF step s xs = some t → forC (R := Unit) (fun s x => (step s x).map Ctl.nx) s xs = some (.nx t)
  | [], s, t, h => by
    rw [show s = t from Option.some.inj h]
    rfl
  | x :: xs, s, t, h => by
    obtain ⟨s', h1, h2⟩ := bindS h
    show ((step s x).map Ctl.nx).bind _ = _
    rw [h1]
    exact forF_C xs s' t h2
/-- a loop that is never left early -/
theorem wp_forF (dF : S → List SD) (mF : S → M) {step : S → α → Option S} {s0 sN : S} (hs : Src F.K wi g ds m m1 G items up js) (h : forF step s0 items = some sN) (hw : Wks ds (dF s0)) (hm : m1 = mF s0) (hG : ∀ s, G (mF s))
    (body : ∀ lo s x s', x ∈ items → step s x = some s' → ∀ D', D'.rt = D.rt → (∀ σ H, At (F.at lo) (dF s') (mF s') σ H → D'.nx σ H) → (∀ σ H, At (F.at lo) (dF s') (mF s') σ H → D'.ct σ H) → Wp (F.at lo) tb D' (up x (dF s)) (mF s))
    (k : Wp F tz D (dF sN) (mF sN)) : Wp F (tSeq (tFor wi g tb) tz) D ds m :=
  wp_forC (R := Unit) dF mF hs (forF_C items s0 sN h) hw hm hG (fun lo s x c' hx hstep D' e1 e2 e3 _ _ => by
    obtain ⟨s', h1, rfl⟩ := Option.map_eq_some_iff.mp hstep
    exact body lo s x s' hx h1 D' e1 (e2 s' rfl) (e3 s' rfl)) (fun s hc => by
    rcases hc with hc | hc
    · injection hc with e
      rw [← e]
      exact k
    · cases hc)
/-- while -/
theorem wp_whi (dF : S → List SD) (mF : S → M) {cond : S → Option Bool} {step : S → Option S} {n0 : Nat} {s0 sN : S} (h : whiF cond step n0 s0 = some sN) (hw : Wks ds (dF s0)) (hm : m = mF s0)
    (test : ∀ s b, cond s = some b → EvT F.K tt (dF s) (mF s) b (mF s))
    (body : ∀ s s', cond s = some true → step s = some s' → ∀ D', D'.rt = D.rt → (∀ σ H, At F (dF s') (mF s') σ H → D'.nx σ H) → (∀ σ H, At F (dF s') (mF s') σ H → D'.ct σ H) → Wp F tb D' (dF s) (mF s))
    (k : cond sN = some false → Wp F tz D (dF sN) (mF sN)) : Wp F (tSeq (tWhile tt tb) tz) D ds m := fun σ H ⟨B, st, s, t, lo⟩ => by
  subst hm
  refine ⟨fun n σ' H' => ∃ s', whiF cond step n s' = some sN ∧ At F (dF s') (mF s') σ' H', ⟨n0, s0, h, B, hw.st st, s, t, lo⟩, ?_⟩
  rintro n σ' H' ⟨s', hf, B', st', sk, tr, eB⟩
  cases n with
  | zero => cases hf
  | succ n =>
    obtain ⟨b, h1, h2⟩ := bindS hf
    refine test s' b h1 B' H' σ' sk st' _ fun B2 H2 t2 s2 => ?_
    cases b with
    | true =>
      obtain ⟨s3, h3, h4⟩ := bindS h2
      refine iteT ⟨fun σ2 H2 => ∃ s', whiF cond step n s' = some sN ∧ At F (dF s') (mF s') σ2 H2, fun σ2 H2 p => ⟨n, Nat.lt_succ_self n, p⟩, ?_⟩
      refine body s' s3 h1 h3 _ ?_ ?_ ?_ σ' H2 ⟨B2, st_mono t2.ex st', s2, tr.trans t2, eB.trans t2.ex⟩
      · rfl
      · exact fun σ4 H4 a4 => ⟨s3, h4, a4⟩
      · exact fun σ4 H4 a4 => ⟨s3, h4, a4⟩
    | false =>
      have e : s' = sN := Option.some.inj h2
      subst e
      exact iteF (k h1 σ' H2 ⟨B2, st_mono t2.ex st', s2, tr.trans t2, eB.trans t2.ex⟩)
end

/-! ### dicts -/
section
variable {κ α : Type} [DecidableEq κ]
def dget (kvs : List (κ × α)) (k : κ) : Option α := (kvs.find? fun kv => decide (kv.1 = k)).map (·.2)
def dput (kvs : List (κ × α)) (k : κ) (v : α) : List (κ × α) := if (kvs.any fun kv => decide (kv.1 = k)) = true then kvs.map (fun kv => if kv.1 = k then (kv.1, v) else kv) else kvs ++ [(k, v)]
def ddrop (kvs : List (κ × α)) (k : κ) : List (κ × α) := kvs.filter fun kv => decide (kv.1 ≠ k)
end
/-- keys that are texts, numbers, tuples of numbers -/
def kS (s : Str) : Key := .inr s
def kI (i : Int) : Key := .inl i
def kU (k : List Int) : List Key := k.map Sum.inl
def eK {κ κ' α : Type} (kf : κ → κ') (f : α → PyData) (kvs : List (κ × α)) : List (κ' × PyData) := kvs.map fun p => (kf p.1, f p.2)
section
variable {K : PySem.W.Frag} {B H : Hp} {ds : List SD} {m m1 m2 m' : M} {κ κ' α : Type} [DecidableEq κ] [DecidableEq κ'] {kf : κ → κ'} {f : α → PyData} {td ty tx tv : TE}
theorem kS_inj {a b : Str} (h : kS a = kS b) : a = b := Sum.inr.inj h
theorem kI_inj {a b : Int} (h : kI a = kI b) : a = b := Sum.inl.inj h
theorem kU_inj : ∀ {a b : List Int}, kU a = kU b → a = b
  | [], [], _ => rfl
  | [], _ :: _, h => by cases h
  | _ :: _, [], h => by cases h
  | x :: a, y :: b, h => by
    have h1 : Sum.inl x :: kU a = (Sum.inl y :: kU b : List Key) := h
    injection h1 with e1 e2
    rw [Sum.inl.inj e1, kU_inj e2]
theorem kv_get (hk : ∀ a b, kf a = kf b → a = b) : ∀ {kvs : List (κ × α)} {ws : List (κ' × V)} {k : κ}, KvOk B (eK kf f kvs) ws → match dget kvs k with
    | some a => ∃ v, valV ws (kf k) = some v ∧ Dq B v (f a)
    | none => valV ws (kf k) = none
  | [], [], k, _ => rfl
  | [], _ :: _, k, h => h.elim
  | _ :: _, [], k, h => h.elim
  | p :: kvs, w :: ws, k, h => by
    have h1 : kf p.1 = w.1 := h.1.1
    have h2 : Dq B w.2 (f p.2) := h.1.2
    by_cases e : p.1 = k
    · have e2 : dget (p :: kvs) k = some p.2 := by simp [dget, List.find?_cons, e]
      rw [e2]
      exact ⟨w.2, valV_pos (by rw [← h1, e]), h2⟩
    · have e2 : dget (p :: kvs) k = dget kvs k := by simp [dget, List.find?_cons, e]
      have e3 : valV (w :: ws) (kf k) = valV ws (kf k) := valV_neg fun z => e (hk _ _ (h1.trans z))
      rw [e2, e3]
      exact kv_get hk h.2
theorem kv_any (hk : ∀ a b, kf a = kf b → a = b) : ∀ {kvs : List (κ × α)} {ws : List (κ' × V)} {k : κ}, KvOk B (eK kf f kvs) ws → (ws.any fun kv => decide (kv.1 = kf k)) = (kvs.any fun kv => decide (kv.1 = k))
  | [], [], k, _ => rfl
  | [], _ :: _, k, h => h.elim
  | _ :: _, [], k, h => h.elim
  | p :: kvs, w :: ws, k, h => by
    have h1 : kf p.1 = w.1 := h.1.1
    rw [List.any_cons, List.any_cons, kv_any hk h.2, ← h1, decide_eq_decide.mpr (show kf p.1 = kf k ↔ p.1 = k from ⟨hk _ _, fun e => by rw [e]⟩)]
theorem kv_map (hk : ∀ a b, kf a = kf b → a = b) {k : κ} {v : V} {a : α} (hv : Dq B v (f a)) : ∀ {kvs : List (κ × α)} {ws : List (κ' × V)}, KvOk B (eK kf f kvs) ws →
    KvOk B (eK kf f (kvs.map fun kv => if kv.1 = k then (kv.1, a) else kv)) (ws.map fun kv => if kv.1 = kf k then (kv.1, v) else kv)
  | [], [], _ => True.intro
  | [], _ :: _, h => h.elim
  | _ :: _, [], h => h.elim
  | p :: kvs, w :: ws, h => by
    have h1 : kf p.1 = w.1 := h.1.1
    have h2 : Dq B w.2 (f p.2) := h.1.2
    refine ⟨?_, kv_map hk hv h.2⟩
    show kf (if p.1 = k then (p.1, a) else p).1 = (if w.1 = kf k then (w.1, v) else w).1 ∧ Dq B (if w.1 = kf k then (w.1, v) else w).2 (f (if p.1 = k then (p.1, a) else p).2)
    by_cases e : p.1 = k
    · rw [if_pos e, if_pos (show w.1 = kf k by rw [← h1, e])]
      exact ⟨h1, hv⟩
    · rw [if_neg e, if_neg (fun z => e (hk _ _ (h1.trans z)))]
      exact ⟨h1, h2⟩
theorem kv_app : ∀ {a b : List (κ' × PyData)} {u w : List (κ' × V)}, KvOk B a u → KvOk B b w → KvOk B (a ++ b) (u ++ w)
  | [], _, [], _, _, q => q
  | [], _, _ :: _, _, h, _ => h.elim
  | _ :: _, _, [], _, h, _ => h.elim
  | _ :: _, _, _ :: _, _, h, q => ⟨h.1, kv_app h.2 q⟩
theorem kv_put (hk : ∀ a b, kf a = kf b → a = b) {kvs : List (κ × α)} {ws : List (κ' × V)} {k : κ} {v : V} {a : α} (h : KvOk B (eK kf f kvs) ws) (hv : Dq B v (f a)) : KvOk B (eK kf f (dput kvs k a)) (putK ws (kf k) v) := by
  unfold dput putK
  rw [kv_any hk h]
  split
  · exact kv_map hk hv h
  · unfold eK
    rw [List.map_append]
    exact kv_app h ⟨⟨rfl, hv⟩, True.intro⟩
theorem kv_len : ∀ {a : List (κ' × PyData)} {u : List (κ' × V)}, KvOk B a u → u.length = a.length
  | [], [], _ => rfl
  | [], _ :: _, h => h.elim
  | _ :: _, [], h => h.elim
  | _ :: _, _ :: _, h => congrArg (· + 1) (kv_len h.2)
theorem kv_drop (hk : ∀ a b, kf a = kf b → a = b) {k : κ} : ∀ {kvs : List (κ × α)} {ws : List (κ' × V)}, KvOk B (eK kf f kvs) ws → KvOk B (eK kf f (ddrop kvs k)) (dropK ws (kf k))
  | [], [], _ => True.intro
  | [], _ :: _, h => h.elim
  | _ :: _, [], h => h.elim
  | p :: kvs, w :: ws, h => by
    have h1 : kf p.1 = w.1 := h.1.1
    have ih := kv_drop hk (k := k) h.2
    unfold ddrop dropK at ih ⊢
    rw [List.filter_cons, List.filter_cons]
    by_cases e : p.1 = k
    · rw [if_neg (by simp [e]), if_neg (by simp [← h1, e])]
      exact ih
    · rw [if_pos (by simp [e]), if_pos (by simp only [ne_eq, decide_eq_true_eq]; exact fun z => e (hk _ _ (h1.trans z)))]
      exact ⟨h.1, ih⟩
theorem SOk.dk (s : SOk K B m H) {j : Nat} {l : Addr} {kvs : List (Key × PyData)} (hm : m[j]? = some (l, .dk kvs)) : ∃ ws, H l = some (.dK ws) ∧ KvOk B kvs ws := by
  obtain ⟨o, h, c⟩ := s.at hm
  cases o <;> first | exact ⟨_, h, c⟩ | exact c.elim
theorem SOk.dt (s : SOk K B m H) {j : Nat} {l : Addr} {kvs : List (List Key × PyData)} (hm : m[j]? = some (l, .dt kvs)) : ∃ ws, H l = some (.dT ws) ∧ KvOk B kvs ws := by
  obtain ⟨o, h, c⟩ := s.at hm
  cases o <;> first | exact ⟨_, h, c⟩ | exact c.elim
/-- a key's value -/
theorem key_S {x : Str} {y : V} (h : SdOk K B (.da (dS x)) y) : y = kV (kS x) := str_of h
theorem key_I {x : Int} {y : V} (h : SdOk K B (.da (dI x)) y) : y = kV (kI x) := int_of h
theorem key_U {x : List Int} {y : V} (h : SdOk K B (.da (dU dI x)) y) : ∃ b, y = .ref b ∧ B b = some (.tup ((kU x).map kV)) := by
  obtain ⟨p, vs, rfl, hp, ha⟩ := tup_of h
  have e := dqa_ints ha
  subst e
  refine ⟨p, rfl, ?_⟩
  rw [hp]
  unfold kU
  rw [List.map_map]
  rfl
end
/-- kinds of keys -/
class KK (κ : Type) [DecidableEq κ] where
  kd : κ → PyData
  cell : {α : Type} → (α → PyData) → List (κ × α) → CD
  get : ∀ {K : PySem.W.Frag} {B H : Hp} {m : M} {l : Addr} {j : Nat} {α : Type} {f : α → PyData} {kvs : List (κ × α)} {k : κ} {y : V}, SOk K B m H → m[j]? = some (l, cell f kvs) → SdOk K B (.da (kd k)) y → match dget kvs k with
    | some a => ∃ v, DGet H l y (some v) ∧ Dq B v (f a)
    | none => DGet H l y none
  isD : ∀ {K : PySem.W.Frag} {B H : Hp} {m : M} {l : Addr} {j : Nat} {α : Type} {f : α → PyData} {kvs : List (κ × α)}, SOk K B m H → m[j]? = some (l, cell f kvs) → IsD H l
  put : ∀ {K : PySem.W.Frag} {B H : Hp} {m : M} {l : Addr} {j : Nat} {α : Type} {f : α → PyData} {kvs : List (κ × α)} {k : κ} {y v : V} {a : α}, SOk K B m H → m[j]? = some (l, cell f kvs) → SdOk K B (.da (kd k)) y → Dq B v (f a) → kvs.length ≤ 16000000 →
    ∃ o, DPut H l y v (upd H l o) ∧ CdOk K B (cell f (dput kvs k a)) o
instance : KK Str where
  kd := dS
  cell f kvs := .dk (eK kS f kvs)
  get := fun {K B H m l j α f kvs k y} s hj hy => by
    obtain ⟨ws, h1, h2⟩ := s.dk hj
    have h3 := kv_get (fun _ _ => kS_inj) (k := k) h2
    rw [key_S hy]
    have h4 := DGet.k (k := kS k) h1
    cases e : dget kvs k with
    | none =>
      rw [e] at h3
      rw [h3] at h4
      exact h4
    | some a =>
      rw [e] at h3
      obtain ⟨v, h5, h6⟩ := h3
      rw [h5] at h4
      exact ⟨v, h4, h6⟩
  isD := fun s hj => by
    obtain ⟨ws, h1, h2⟩ := s.dk hj
    exact .inl ⟨ws, .inl h1⟩
  put := fun {K B H m l j α f kvs k y v a} s hj hy hv hz => by
    obtain ⟨ws, h1, h2⟩ := s.dk hj
    have hl := kv_len h2
    unfold eK at hl
    rw [List.length_map] at hl
    rw [key_S hy]
    exact ⟨_, DPut.k h1 (by rw [sizeLine_eq]; omega), kv_put (fun _ _ => kS_inj) h2 hv⟩
instance : KK Int where
  kd := dI
  cell f kvs := .dk (eK kI f kvs)
  get := fun {K B H m l j α f kvs k y} s hj hy => by
    obtain ⟨ws, h1, h2⟩ := s.dk hj
    have h3 := kv_get (fun _ _ => kI_inj) (k := k) h2
    rw [key_I hy]
    have h4 := DGet.k (k := kI k) h1
    cases e : dget kvs k with
    | none =>
      rw [e] at h3
      rw [h3] at h4
      exact h4
    | some a =>
      rw [e] at h3
      obtain ⟨v, h5, h6⟩ := h3
      rw [h5] at h4
      exact ⟨v, h4, h6⟩
  isD := fun s hj => by
    obtain ⟨ws, h1, h2⟩ := s.dk hj
    exact .inl ⟨ws, .inl h1⟩
  put := fun {K B H m l j α f kvs k y v a} s hj hy hv hz => by
    obtain ⟨ws, h1, h2⟩ := s.dk hj
    have hl := kv_len h2
    unfold eK at hl
    rw [List.length_map] at hl
    rw [key_I hy]
    exact ⟨_, DPut.k h1 (by rw [sizeLine_eq]; omega), kv_put (fun _ _ => kI_inj) h2 hv⟩
instance : KK (List Int) where
  kd := dU dI
  cell f kvs := .dt (eK kU f kvs)
  get := fun {K B H m l j α f kvs k y} s hj hy => by
    obtain ⟨ws, h1, h2⟩ := s.dt hj
    have h3 := kv_get (fun _ _ => kU_inj) (k := k) h2
    obtain ⟨b, rfl, hb⟩ := key_U hy
    have h4 := DGet.t (k := kU k) h1 (s.ext _ _ hb)
    cases e : dget kvs k with
    | none =>
      rw [e] at h3
      rw [h3] at h4
      exact h4
    | some a =>
      rw [e] at h3
      obtain ⟨v, h5, h6⟩ := h3
      rw [h5] at h4
      exact ⟨v, h4, h6⟩
  isD := fun s hj => by
    obtain ⟨ws, h1, h2⟩ := s.dt hj
    exact .inr ⟨ws, .inl h1⟩
  put := fun {K B H m l j α f kvs k y v a} s hj hy hv hz => by
    obtain ⟨ws, h1, h2⟩ := s.dt hj
    have hl := kv_len h2
    unfold eK at hl
    rw [List.length_map] at hl
    obtain ⟨b, rfl, hb⟩ := key_U hy
    exact ⟨_, DPut.t h1 (s.ext _ _ hb) (by rw [sizeLine_eq]; omega), kv_put (fun _ _ => kU_inj) h2 hv⟩
section
variable {K : PySem.W.Frag} {B H : Hp} {ds : List SD} {m m1 m2 m3 m' : M} {κ α : Type} [DecidableEq κ] [KK κ] {f : α → PyData} {td ty tx tv : TE} {kvs : List (κ × α)} {k : κ} {a : α} {l : Addr}
theorem ev_dget (j : Nat) (hd : Ev K td ds m (.rf l) m1) (hy : Ev K ty ds m1 (.da (KK.kd k)) m2) (hj : m2[j]? = some (l, KK.cell f kvs)) (h : dget kvs k = some a) : Ev K (tDGet td ty) ds m (.da (f a)) m2 := fun B H σ s st Q q =>
  hd B H σ s st _ fun x B1 H1 t1 s1 d1 => hy B1 H1 σ s1 (st_mono t1.ex st) _ fun y B2 H2 t2 s2 d2 => by
    have g := KK.get s2 hj d2
    rw [h] at g
    obtain ⟨v, g1, g2⟩ := g
    exact ⟨l, v, d1, g1, q v B2 H2 (t1.trans t2) s2 g2⟩
theorem dc_some {H2 : Hp} {y : V} (s2 : SOk K B m H2) {j : Nat} (hj : m[j]? = some (l, KK.cell f kvs)) (d2 : SdOk K B (.da (KK.kd k)) y) : ∃ o : Option V, DGet H2 l y o ∧ o.isSome = (dget kvs k).isSome ∧ ∀ a, dget kvs k = some a → ∃ v, o = some v ∧ Dq B v (f a) := by
  have g := KK.get s2 hj d2
  cases e : dget kvs k with
  | none =>
    rw [e] at g
    exact ⟨none, g, rfl, fun a z => nomatch z⟩
  | some a =>
    rw [e] at g
    obtain ⟨v, g1, g2⟩ := g
    exact ⟨some v, g1, rfl, fun a' z => ⟨v, rfl, by rw [← Option.some.inj z]; exact g2⟩⟩
theorem ev_din (j : Nat) (hy : Ev K ty ds m (.da (KK.kd k)) m1) (hd : Ev K td ds m1 (.rf l) m2) (hj : m2[j]? = some (l, KK.cell f kvs)) : Ev K (tDIn ty td) ds m (.da (dB (dget kvs k).isSome)) m2 := fun B H σ s st Q q =>
  hy B H σ s st _ fun y B1 H1 t1 s1 d1 => hd B1 H1 σ s1 (st_mono t1.ex st) _ fun x B2 H2 t2 s2 d2 => by
    obtain ⟨o, g1, g2, _⟩ := dc_some s2 hj (sd_mono t2.ex d1)
    refine ⟨l, o, d2, g1, ?_⟩
    rw [g2]
    exact q _ B2 H2 (t1.trans t2) s2 (.bl _)
theorem ev_dnin (j : Nat) (hy : Ev K ty ds m (.da (KK.kd k)) m1) (hd : Ev K td ds m1 (.rf l) m2) (hj : m2[j]? = some (l, KK.cell f kvs)) : Ev K (tDNotIn ty td) ds m (.da (dB (!(dget kvs k).isSome))) m2 := fun B H σ s st Q q =>
  hy B H σ s st _ fun y B1 H1 t1 s1 d1 => hd B1 H1 σ s1 (st_mono t1.ex st) _ fun x B2 H2 t2 s2 d2 => by
    obtain ⟨o, g1, g2, _⟩ := dc_some s2 hj (sd_mono t2.ex d1)
    refine ⟨l, o, d2, g1, ?_⟩
    rw [g2]
    exact q _ B2 H2 (t1.trans t2) s2 (.bl _)
theorem ev_dget2 (j : Nat) (hd : Ev K td ds m (.rf l) m1) (hd0 : m1[j]? = some (l, KK.cell f kvs)) (hy : Ev K ty ds m1 (.da (KK.kd k)) m2) (hx : Ev K tx ds m2 (.da (f a)) m3) (hj : m3[j]? = some (l, KK.cell f kvs)) : Ev K (tDGet2 td ty tx) ds m (.da (f ((dget kvs k).getD a))) m3 := fun B H σ s st Q q =>
  hd B H σ s st _ fun x B1 H1 t1 s1 d1 => ⟨l, d1, KK.isD s1 hd0, hy B1 H1 σ s1 (st_mono t1.ex st) _ fun y B2 H2 t2 s2 d2 => hx B2 H2 σ s2 (st_mono (t1.ex.trans t2.ex) st) _ fun z B3 H3 t3 s3 d3 => by
    obtain ⟨o, g1, g2, g3⟩ := dc_some s3 hj (sd_mono t3.ex d2)
    refine ⟨o, g1, q _ B3 H3 ((t1.trans t2).trans t3) s3 ?_⟩
    cases e : dget kvs k with
    | none =>
      rw [e] at g2
      cases o with
      | none => exact d3
      | some v => cases g2
    | some b =>
      obtain ⟨v, rfl, g4⟩ := g3 b e
      exact g4⟩
end
section
variable {F : Fx} {D : Ends} {ds : List SD} {m m1 m2 m3 m' : M} {κ α : Type} [DecidableEq κ] [KK κ] {f : α → PyData} {td ty tx tv : TE} {kvs : List (κ × α)} {k : κ} {a : α} {l : Addr} {tz : TS}
theorem wp_dput (j : Nat) (hv : Ev F.K tv ds m (.da (f a)) m1) (hd : Ev F.K td ds m1 (.rf l) m2) (hy : Ev F.K ty ds m2 (.da (KK.kd k)) m3) (hj : m3[j]? = some (l, KK.cell f kvs)) (hz : lenG kvs.length = some ())
    (w : Wp F tz D ds (m3.set j (l, KK.cell f (dput kvs k a)))) : Wp F (tSeq (sDPut td ty tv) tz) D ds m := fun σ H ⟨B, st, s, t, lo⟩ =>
  hv B H σ s st _ fun v B1 H1 t1 s1 d1 => hd B1 H1 σ s1 (st_mono t1.ex st) _ fun x B2 H2 t2 s2 d2 => hy B2 H2 σ s2 (st_mono (t1.ex.trans t2.ex) st) _ fun y B3 H3 t3 s3 d3 => by
    obtain ⟨o, h1, h2⟩ := KK.put (a := a) s3 hj d3 (dp_mono (t2.ex.trans t3.ex) (show Dq B1 v (f a) from d1)) (lenG_some hz)
    exact ⟨l, _, d2, h1, w σ _ ⟨B3, st_mono (t1.ex.trans (t2.ex.trans t3.ex)) st, s3.put hj h2, (((t.trans t1).trans t2).trans t3).trans (Tr.put s3 hj h2), lo.trans (t1.ex.trans (t2.ex.trans t3.ex))⟩⟩
end
end FC
set_option maxHeartbeats 400000
/-! FV: what the printed walks use besides: pure tests, a def's body, a loop's ways out. -/
namespace FC
open PySem PySem.Spec PyProof.Rows L2 Evl

section
variable {K : PySem.W.Frag} {B H : Hp} {ds : List SD} {m m1 m2 m' : M} {ta tb te : TE} {t u : TT} {r : SD} {α β : Type} {f : α → PyData}
theorem et_andP {a b : Bool} (ha : EvT K t ds m a m1) (hb : EvT K u ds m1 b m1) : EvT K (tAnd t u) ds m (a && b) m1 := et_and ha (fun e => by rw [e]; exact hb) (fun e => by rw [e]; exact ⟨rfl, rfl⟩)
theorem et_orP {a b : Bool} (ha : EvT K t ds m a m1) (hb : EvT K u ds m1 b m1) : EvT K (tOr t u) ds m (a || b) m1 := et_or ha (fun e => by rw [e]; exact hb) (fun e => by rw [e]; exact ⟨rfl, rfl⟩)
theorem ev_andP {a b : Bool} (ha : Ev K ta ds m (.da (dB a)) m1) (hb : Ev K tb ds m1 (.da (dB b)) m1) : Ev K (tAndV ta tb) ds m (.da (dB (a && b))) m1 := ev_andV ha (fun e => by rw [e]; exact hb) (fun e => by rw [e]; exact ⟨rfl, rfl⟩)
theorem ev_orP {a b : Bool} (ha : Ev K ta ds m (.da (dB a)) m1) (hb : Ev K tb ds m1 (.da (dB b)) m1) : Ev K (tOrV ta tb) ds m (.da (dB (a || b))) m1 := ev_orV ha (fun e => by rw [e]; exact hb) (fun e => by rw [e]; exact ⟨rfl, rfl⟩)
theorem ev_ifP {c : Bool} {x y : α} (h : EvT K t ds m c m1) (h1 : Ev K ta ds m1 (.da (f x)) m1) (h2 : Ev K tb ds m1 (.da (f y)) m1) : Ev K (tIf t ta tb) ds m (.da (f (cond c x y))) m1 := ev_if h (fun e => by rw [e]; exact h1) (fun e => by rw [e]; exact h2)
theorem ev_some {o : Option α} {a : α} (h : Ev K te ds m (.da (dO f o)) m') (e : o = some a) : Ev K te ds m (.da (f a)) m' := by
  rw [e] at h
  exact h
theorem ev_eq {x y : α} (h : Ev K te ds m (.da (f x)) m') (e : x = y) : Ev K te ds m (.da (f y)) m' := by
  rw [← e]
  exact h
def two (xs : List α) : Option (α × α) := match xs with
  | [a, b] => some (a, b)
  | _ => none
theorem two_some {xs : List α} {a b : α} (h : two xs = some (a, b)) : xs = [a, b] := by
  unfold two at h
  split at h
  · cases h
    rfl
  · cases h
theorem condT {c : Bool} {a b v : Option α} (e : c = true) (h : cond c a b = v) : a = v := by
  rw [e] at h
  exact h
theorem condF {c : Bool} {a b v : Option α} (e : c = false) (h : cond c a b = v) : b = v := by
  rw [e] at h
  exact h
def ctlK {S R β : Type} (c : Ctl S R) (k : S → Option β) (r : R → Option β) : Option β := match c with
  | .nx s => k s
  | .bk s => k s
  | .rt x => r x
theorem ctlK_go {S R β : Type} {c : Ctl S R} {k : S → Option β} {r : R → Option β} {s : S} {v : Option β} (e : c = .nx s ∨ c = .bk s) (h : ctlK c k r = v) : k s = v := by
  rcases e with e | e <;> (rw [e] at h; exact h)
theorem ctlK_rt {S R β : Type} {c : Ctl S R} {k : S → Option β} {r : R → Option β} {x : R} {v : Option β} (e : c = .rt x) (h : ctlK c k r = v) : r x = v := by
  rw [e] at h
  exact h
theorem mapO_pure {g : α → β} : ∀ xs : List α, mapO (fun x => some (g x)) xs = some (xs.map g)
  | [] => rfl
  | x :: xs => by
    show Option.bind (some (g x)) _ = _
    rw [Option.bind_some, mapO_pure xs]
    rfl
theorem filO_pure {p : α → Bool} {g : α → β} : ∀ xs : List α, filO (fun x => some (p x)) (fun x => some (g x)) xs = some ((xs.filter p).map g)
  | [] => rfl
  | x :: xs => by
    show Option.bind (some (p x)) _ = _
    rw [Option.bind_some, filO_pure xs]
    cases h : p x with
    | true =>
      rw [List.filter_cons_of_pos h]
      rfl
    | false =>
      rw [List.filter_cons_of_neg (by rw [h]; decide)]
      rfl
def enumI (xs : List α) : List (Int × α) := (xs.zipIdx).map fun p => ((p.2 : Int), p.1)
theorem src_En {xs : List α} {j k : Nat} {t : TA} (h : EvA K t ds m [.da (dL f xs)] m1) : Src K (iEnum K t) (gTup K 2 (gCons (gName j) (gCons (gName k) gNil))) ds m m1 (fun _ => True) (enumI xs) (fun p ds => (ds.set j (.da (dI p.1))).set k (.da (f p.2))) ([j] ++ [k]) := src_E h
/-- a cell compared with data -/
theorem rr_eqC [DecidableEq α] [e : Enc f] {xs ys : List α} {l : Addr} (hd : Enc.dep (dL f) ≤ 60) (j : Nat) (hj : m[j]? = some (l, .ls (xs.map f))) : Rr K (rEqP K) (.rf l) (.da (dL f ys)) m (.da (dB (decide (xs = ys)))) m := Rr.of fun B H u v s dx dy Q q => by
  obtain ⟨vs, h1, h2⟩ := s.ls hj
  have e1 : u = .ref l := dx
  subst e1
  exact ⟨dL f xs, dL f ys, (Dq.lst h1 (dpa_mono s.ext h2) : Dq H (.ref l) (.list (xs.map f))).dp, da_dp s dy, Enc.plain xs, Enc.plain ys, Nat.le_trans (Enc.dep_le xs) hd, by rw [Enc.eqv]; exact q _ (.bl _)⟩
theorem rr_neC [DecidableEq α] [e : Enc f] {xs ys : List α} {l : Addr} (hd : Enc.dep (dL f) ≤ 60) (j : Nat) (hj : m[j]? = some (l, .ls (xs.map f))) : Rr K (rNeP K) (.rf l) (.da (dL f ys)) m (.da (dB (!decide (xs = ys)))) m := Rr.of fun B H u v s dx dy Q q => by
  obtain ⟨vs, h1, h2⟩ := s.ls hj
  have e1 : u = .ref l := dx
  subst e1
  exact ⟨dL f xs, dL f ys, (Dq.lst h1 (dpa_mono s.ext h2) : Dq H (.ref l) (.list (xs.map f))).dp, da_dp s dy, Enc.plain xs, Enc.plain ys, Nat.le_trans (Enc.dep_le xs) hd, by rw [Enc.eqv]; exact q _ (.bl _)⟩
theorem rr_pow {i j k : Int} (h : CPow i j) (e : i ^ j.toNat = k) : Rr K (rI CPow fun i j => .int (i ^ j.toNat)) (.da (dI i)) (.da (dI j)) m (.da (dI k)) m := rr_c (f := fun i j => i ^ j.toNat) h e
end

section
variable {F : Fx} {D : Ends} {ds : List SD} {m m1 m2 : M} {te : TE} {tz : TS} {r : SD} {R : SD → M → Prop}
theorem wp_retS (h : Ev F.K te ds m r m1) (hf : Fin F D R) (hr : R r m2) (hs : m2.Sublist m1) : Wp F (tSeq (tRet te) tz) D ds m := fun σ H ⟨B, st, s, t, lo⟩ =>
  h B H σ s st _ fun v B2 H2 t2 s2 d => hf v B2 H2 r m2 hr ((t.trans t2).sub fun a z => (hs.map _).subset z) (s2.sub hs) d
/-- a new cell is handed back -/
theorem wp_retN' {c : CD} (h : EvN F.K te ds m c m1) (hf : Fin F D R) (hr : ∀ p, R (.rf p) (m1 ++ [(p, c)])) : Wp F (tSeq (tRet te) tz) D ds m := fun σ H ⟨B, st, s, t, lo⟩ =>
  h B H σ s st _ fun p B2 H2 t2 s2 => hf (.ref p) B2 H2 (.rf p) _ (hr p) (t.trans t2) s2 rfl
end

/-! ### rules with the written part named -/
section
variable {X : Cx} {K : PySem.W.Frag}
theorem kOp {f : Value → Value → Sem Value} {r : PySem.W.Frag → R2} (h : OpR X f (r X.K)) (e : X.K = K) : OpR X f (r K) := by
  rw [← e]
  exact h
theorem kIx {r : PySem.W.Frag → R2} (h : IxR X (r X.K)) (e : X.K = K) : IxR X (r K) := by
  rw [← e]
  exact h
theorem kSl {r : PySem.W.Frag → V → Option Int → Option Int → Hp → VK → Prop} (h : SlR X (r X.K)) (e : X.K = K) : SlR X (r K) := by
  rw [← e]
  exact h
theorem kCa {f : Value} {r : PySem.W.Frag → List V → Hp → VK → Prop} (h : CallR X f (r X.K)) (e : X.K = K) : CallR X f (r K) := by
  rw [← e]
  exact h
theorem kPi {tg it : Expr} {r : PySem.W.Frag → TI} (h : PI X tg it (r X.K)) (e : X.K = K) : PI X tg it (r K) := by
  rw [← e]
  exact h
theorem kPe {e : Expr} {r : PySem.W.Frag → TE} (h : PE X e (r X.K)) (e' : X.K = K) : PE X e (r K) := by
  rw [← e']
  exact h
abbrev rLenA (K : PySem.W.Frag) : List V → Hp → VK → Prop := fun xs H Q => ∃ p ys, xs = [.ref p] ∧ (SqL K H p ys ∨ SqT K H p ys) ∧ Q (.int ys.length) H
end
/-! ### a def -/
def startD (N : List Str) (as : List SD) : List SD := as ++ List.replicate (N.length - as.length) .un
theorem st_start {K : PySem.W.Frag} {B : Hp} {N : List Str} : ∀ {as : List SD} {vs : List V}, SdAll K B as vs → StOk K B (startD N as) (L2.start N vs) := fun {as vs} h => by
  have hl := sda_len h
  unfold startD L2.start
  rw [hl]
  have app : ∀ {as : List SD} {vs : List V} (n : Nat), SdAll K B as vs → StOk K B (as ++ List.replicate n .un) (vs.map some ++ List.replicate n none) := by
    intro as
    induction as with
    | nil =>
      intro vs n h
      cases vs with
      | nil =>
        induction n with
        | zero => exact True.intro
        | succ n ih => exact ⟨True.intro, ih⟩
      | cons _ _ => exact h.elim
    | cons a as ih =>
      intro vs n h
      cases vs with
      | nil => exact h.elim
      | cons v vs => exact ⟨sl_of h.1, ih n h.2⟩
  exact app _ h
theorem hu65 {k : Nat} {A : Around} (h : Room k A) : A.units + 65 < cLine := by
  have := h.un
  omega
section
variable {P : Program} {w : World} {K : PySem.W.Frag} {mg : Str → Option Value} {base : Heap}
theorem ok_of {x qual : Str} {st : Stmt} {f : Addr} {fd : FuncData} {N ps : List Str} {k : Nat} {G : Pf} (F : Fun K x qual st f fd) (S : FnScope N ps (defScope st)) (len : ∀ as m R, G as m R → as.length = ps.length)
    (hbody : ∀ (cdv : Value) (A : Around) (outer : List Env) (s : Shared) (H : Hp) (E : XK), Room k (A.deeper (envOfC qual (defScope st) s.heap.objs.size f cdv)) →
      ∃ t, PSs (cxOf CX0 P w K mg base N qual (defScope st) f cdv A outer s H E).nox (defBody st) t ∧ ∀ as m R, G as m R → ∀ (F' : Fx) (D : Ends), F'.K = K → F'.k0 = keys m → Fin F' D R → (∀ σ B H m2, R (.da .none) m2 → Tr F'.B0 F'.H0 F'.k0 B H (keys m2) → SOk F'.K B m2 H → D.nx σ H) → Wp F' t D (startD N as) m) : FnOk P w K mg base CX0 (k + 1) f fd ps (spOf K G) := by
  refine F.ok S (fun vs H Q E h => ?_) (fun cdv A outer s H vs Q E hr h => ?_)
  · obtain ⟨B, as, m, R, hG, _, hv, _⟩ := h
    rw [sda_len hv]
    exact len as m R hG
  · obtain ⟨B, as, m, R, hG, hs, hv, q⟩ := h
    obtain ⟨t, h1, h2⟩ := hbody cdv A outer s H E hr
    let F' : Fx := ⟨K, B, H, keys m, fun a ha => by
      obtain ⟨c, hc, e⟩ := List.mem_map.mp ha
      rw [← e]
      exact hs.ne hc, B⟩
    refine ⟨t, h1, h2 as m R hG F' _ rfl rfl (fun v B2 H2 r m2 hr t2 s2 d => q v B2 H2 r m2 hr t2 s2 d) (fun σ B2 H2 m2 hr t2 s2 => q .non B2 H2 _ m2 hr t2 s2 .non) _ H ⟨B, st_start hv, hs, Tr.refl _ _ _, Ex.refl _⟩⟩
end
section
variable {F : Fx} {D : Ends} {ds : List SD} {m m1 : M} {S R : Type} {tu tw tz : TS} {tt : TT}
/-- an if whose branches may hand back from within -/
theorem wp_cutIfC {b : Bool} {c : Ctl S R} (dF : S → List SD) (mF : S → M) (k : ∀ s, (c = .nx s ∨ c = .bk s) → Wp F tz D (dF s) (mF s)) (h : EvT F.K tt ds m b m1)
    (h1 : b = true → Wp F tu { D with nx := fun σ H => ∃ s, c = .nx s ∧ At F (dF s) (mF s) σ H } ds m1) (h2 : b = false → Wp F tw { D with nx := fun σ H => ∃ s, c = .nx s ∧ At F (dF s) (mF s) σ H } ds m1) : Wp F (tCut (tIfS tt tu tw) tz) D ds m := fun σ H ⟨B, st, s, t, lo⟩ =>
  ⟨fun σ H => ∃ s, c = .nx s ∧ At F (dF s) (mF s) σ H, h B H σ s st _ fun B2 H2 t2 s2 => by
    cases b with
    | true => exact iteT (h1 rfl σ H2 ⟨B2, st_mono t2.ex st, s2, t.trans t2, lo.trans t2.ex⟩)
    | false => exact iteF (h2 rfl σ H2 ⟨B2, st_mono t2.ex st, s2, t.trans t2, lo.trans t2.ex⟩), fun σ H ⟨s, e, a⟩ => k s (.inl e) σ H a⟩
theorem wp_nextE {s : S} {dF : S → List SD} {mF : S → M} (w : Wks ds (dF s)) (e : m = mF s) : Wp F tNext { D with nx := fun σ H => ∃ s', (Ctl.nx s : Ctl S R) = .nx s' ∧ At F (dF s') (mF s') σ H } ds m := fun σ H a => by
  subst e
  exact ⟨s, rfl, at_weak w a⟩
end
end FC
set_option maxHeartbeats 400000
/-! FX: sorted(d.items()) of a dict with tuples of numbers as keys. -/
namespace FC
open PySem PySem.Spec PyProof.Rows L2 Evl L2.DX
inductive Fl : V → PyData → Prop
  | int (i : Int) : Fl (.int i) (.int i)
  | str (x : Str) : Fl (.str x) (.str x)
  | bl (b : Bool) : Fl (.bl b) (.bool b)
theorem Fl.reads {v : V} {d : PyData} {u : Value} (h : Heap) (f : Fl v d) (r : RelV v u) : Reads h u d [] := by
  cases f with
  | int i => obtain ⟨t, rfl⟩ := r; exact .int i t
  | str x => obtain ⟨t, rfl⟩ := r; exact .str x t
  | bl b => obtain rfl := r; exact .bool b
def kD : L2.Key → PyData
  | .inl i => .int i
  | .inr x => .str x
theorem fl_k (k : L2.Key) : Fl (kV k) (kD k) := by cases k <;> constructor
theorem fl_readsAll (h : Heap) : ∀ {ks : List L2.Key} {its : List Value}, Vals (ks.map kV) its → ReadsAll h its (ks.map kD) []
  | [], _, .nil => .nil
  | k :: ks, _, .cons r rs => ReadsAll.cons (as := []) ((fl_k k).reads h r) (fl_readsAll h rs)
theorem each_of_ix {α β : Type} {R : α → β → Prop} : ∀ {xs : List α} {ys : List β}, xs.length = ys.length → (∀ (i : Nat) (x : α) (y : β), xs[i]? = some x → ys[i]? = some y → R x y) → PySem.W.EachIs R xs ys
  | [], [], _, _ => .nil
  | [], _ :: _, h, _ => by cases h
  | _ :: _, [], h, _ => by cases h
  | x :: xs, y :: ys, h, k => .cons (k 0 x y rfl rfl) (each_of_ix (Nat.succ.inj h) fun i a b ha hb => k (i + 1) a b ha hb)
theorem each_get {α β : Type} {R : α → β → Prop} : ∀ {xs : List α} {ys : List β}, PySem.W.EachIs R xs ys → ∀ {i : Nat} {x : α}, xs[i]? = some x → ∃ y, ys[i]? = some y ∧ R x y
  | _, _, .nil, _, _, h => by simp at h
  | _, _, .cons r _, 0, x, h => by
    cases Option.some.inj h
    exact ⟨_, rfl, r⟩
  | _, _, .cons _ t, i + 1, x, h => each_get t (i := i) h
theorem each_refs {S : Addr → PyData → Prop} : ∀ {ds : List PyData} {out : List Value}, PySem.W.EachIs (fun u d => ∃ b, u = Value.ref b ∧ S b d) out ds → ∃ bs : List Addr, out = bs.map Value.ref ∧ PySem.W.EachIs S bs ds
  | _, _, .nil => ⟨[], rfl, .nil⟩
  | _, _, .cons ⟨b, e, h⟩ t => by
    obtain ⟨bs, e2, h2⟩ := each_refs t
    exact ⟨b :: bs, by rw [e, e2]; rfl, .cons h h2⟩
theorem vals_refs : ∀ as : List Addr, Vals (as.map V.ref) (as.map Value.ref)
  | [] => .nil
  | _ :: as => .cons rfl (vals_refs as)
def rSortItD : List V → Hp → VK → Prop := fun vs H Q => ∃ (p a : Addr) (kvs : List (List L2.Key × V)) (ds : List PyData), vs = [.ref p] ∧ H p = some (itemsO p a) ∧ H a = some (.dT kvs) ∧
  PySem.W.EachIs (fun (kv : List L2.Key × V) d => ∃ dv, d = .tuple [.tuple (kv.1.map kD), dv] ∧ Fl kv.2 dv) kvs ds ∧ PySem.W.AllAlike ds ∧ (∀ d ∈ ds, d.depth ≤ 60) ∧
  ∀ (H' : Hp) (l : Addr) (ys : List V), Ex H H' → H l = none → H' l = some (.lst ys) → PySem.W.EachIs (fun y d => ∃ (b kq : Addr) (kv : List L2.Key × V) (dv : PyData), y = .ref b ∧ H b = none ∧ H' b = some (.tup [.ref kq, kv.2]) ∧ H kq = some (.tup (kv.1.map kV)) ∧ d = .tuple [.tuple (kv.1.map kD), dv] ∧ Fl kv.2 dv) ys (ds.mergeSort (PySem.W.dataLe false id)) → Q (.ref l) H'
section
variable {X : Cx}
theorem cr_sortItD (hc : X.calm = true) (hu : X.A.units + 64 < cLine) : CallR X (.builtin "sorted") rSortItD := by
  intro pins s σ H xs us Q I r h
  obtain ⟨p, a, kvs, ds, rfl, hp, ha, hds, hal, hdp, q⟩ := h
  obtain rfl := Vals.ref1 r
  have view : s.heap.IsItemsView p a := (show ObjOk X.prog X.w H s.heap p (itemsO p a) from I.hok p _ hp).1
  obtain ⟨z, hd, xs', rel, o, es, ep, ho, hx, hdat, hes, his, hn⟩ := dt_of I.hok ha
  have l1 : kvs.length = xs'.length := Paired.length rel
  have l2 : es.size = xs'.length := size_of_entries hes
  have l3 : kvs.length = ds.length := hds.length
  have hh : X.A.handled = none := I.ok.hd hc
  refine DT.sortedI (es := es) (ep := ep) hh view ⟨o, ho, hx, hdat⟩ (by omega) fun h' tk as hk hlt hl hG => ?_
  have nd : as.Nodup := List.Pairwise.imp (fun h => Nat.ne_of_lt h) hG.rise
  have pr : ∀ (j : Nat) (b : Addr), as[j]? = some b → ∃ (kv : List L2.Key × V) (kq : Addr) (vv : Value), kvs[j]? = some kv ∧ H kq = some (.tup (kv.1.map kV)) ∧ RelV kv.2 vv ∧ h'.get? b = some { cls := .type "tuple", data := .seq #[Value.ref kq, vv] } := by
    intro j b hj
    obtain ⟨en, he, hg⟩ := hG.pairs j b hj
    rw [entry_at hes j] at he
    cases hxj : xs'[j]? with
    | none =>
      rw [hxj] at he
      exact nomatch (show (none : Option DictEntry) = some en from he)
    | some x =>
      rw [hxj] at he
      have een : entryOfKey (tupleKind (mixKind X.prog X.w)) x = en := Option.some.inj he
      obtain ⟨e0, he0, r1, r2, r3⟩ := pget rel hxj
      refine ⟨e0, x.2.1, x.2.2, he0, r2, r3, ?_⟩
      rw [hg, ← een]
      all_goals rfl
  have hob : (h'.push { cls := .type "list", data := .seq (as.map Value.ref).toArray }).get? h'.objs.size = some (seqObj "list" (as.map Value.ref).toArray 0) := Heap.get?_push_size _ rfl
  have kb : ∀ b o, s.heap.get? b = some o → (h'.push { cls := .type "list", data := .seq (as.map Value.ref).toArray }).get? b = some o := fun b o e => Heap.get?_push_of_some _ (hk b o e)
  have ne0 : ∀ b o, h'.get? b = some o → b ≠ h'.objs.size := fun b o e => Nat.ne_of_lt (Heap.lt_size e)
  generalize hh2 : h'.push { cls := .type "list", data := .seq (as.map Value.ref).toArray } = h2 at hob kb ⊢
  have ka : ∀ b o, h'.get? b = some o → h2.get? b = some o := fun b o e => by rw [← hh2]; exact Heap.get?_push_of_some _ e
  have e1 : PySem.W.EachIs (fun u d => ∃ b, u = Value.ref b ∧ ∃ (j : Nat) (kv : List L2.Key × V) (dv : PyData), as[j]? = some b ∧ kvs[j]? = some kv ∧ d = .tuple [.tuple (kv.1.map kD), dv] ∧ Fl kv.2 dv) (as.map Value.ref) ds := by
    refine each_of_ix (by rw [List.length_map]; omega) fun i x y hx hy => ?_
    rw [List.getElem?_map] at hx
    cases hai : as[i]? with
    | none => rw [hai] at hx; exact nomatch hx
    | some b =>
      rw [hai] at hx
      obtain ⟨kv, kq, vv, h1, _, _, _⟩ := pr i b hai
      obtain ⟨d', h2, dv, h3, h4⟩ := each_get hds h1
      rw [hy] at h2
      cases Option.some.inj h2
      exact ⟨b, (Option.some.inj hx).symm, i, kv, dv, hai, h1, h3, h4⟩
  have e2 : PySem.W.EachIs (fun v d => ∃ asx, Reads h2 v (id d) asx ∧ h'.objs.size ∉ asx) (as.map Value.ref) ds := e1.mono fun u d ⟨b, eu, j, kv, dv, j1, j2, j3, j4⟩ => by
    obtain ⟨kv', kq, vv, i1, i2, i3, i4⟩ := pr j b j1
    cases Option.some.inj (j2.symm.trans i1)
    obtain ⟨_, its, rv, ot, hot, hct, nt, hdt⟩ := (show ObjOk X.prog X.w H s.heap kq (.tup (kv.1.map kV)) from I.hok kq _ i2)
    subst eu
    subst j3
    refine ⟨[], ?_, fun z => by cases z⟩
    refine Reads.tuple (ka _ _ i4) rfl rfl ?_
    refine ReadsAll.cons (as := []) (bs := []) (Reads.tuple (kb _ _ hot) hct hdt ?_) (ReadsAll.cons (as := []) (bs := []) (j4.reads h2 i3) .nil)
    exact fl_readsAll h2 rv
  refine PySem.W.list_sort_data (s := { s with heap := h2, toks := tk }) (enc := id) hob e1 e2 (by rw [List.map_id]; exact hal) (.inl fun d hd => ?_) (by omega) (fun d hd => by
    have := hdp d hd
    show X.A.units + 1 + 1 + d.depth < cLine
    omega) fun out hol hout => ?_
  · rw [List.map_id] at hd
    obtain ⟨i, hi⟩ := List.mem_iff_getElem?.mp hd
    have hlt : i < kvs.length := by rw [l3]; exact (List.getElem?_eq_some_iff.mp hi).1
    obtain ⟨d', h2, dv, h3, h4⟩ := each_get hds (List.getElem?_eq_getElem hlt)
    rw [hi] at h2
    cases Option.some.inj h2
    exact ⟨_, _, h3⟩
  · show EP X pins σ Q (.ref h'.objs.size) { s with heap := sortedHeap h2 h'.objs.size (as.map Value.ref) out.toArray, toks := tk }
    obtain ⟨bs, rfl, hbs⟩ := each_refs hout
    have kF : ∀ b o, b ≠ h'.objs.size → h2.get? b = some o → (sortedHeap h2 h'.objs.size (as.map Value.ref) (bs.map Value.ref).toArray).get? b = some o := fun b o hb e => (PyProof.Rows.sortedHeap_old hb (Heap.lt_size e)).trans e
    have kS : ∀ b o, s.heap.get? b = some o → (sortedHeap h2 h'.objs.size (as.map Value.ref) (bs.map Value.ref).toArray).get? b = some o := fun b o e => kF b o (ne0 _ _ (hk b o e)) (kb b o e)
    obtain ⟨eF, heF⟩ := PyProof.Rows.sortedHeap_at (vs := as.map Value.ref) (out := (bs.map Value.ref).toArray) hob
    have I1 : Inv X pins σ H { s with heap := sortedHeap h2 h'.objs.size (as.map Value.ref) (bs.map Value.ref).toArray, toks := tk } := I.kept (t' := tk) kS
    have hn0 : H h'.objs.size = none := I.hok.fresh (Nat.le_of_lt hlt)
    have hlen : (bs.map V.ref).length ≤ sizeLine := by
      rw [List.length_map] at hol ⊢
      omega
    have I2 : Inv X pins σ (upd H h'.objs.size (.lst (bs.map V.ref))) { s with heap := sortedHeap h2 h'.objs.size (as.map Value.ref) (bs.map Value.ref).toArray, toks := tk } :=
      I1.take (h' := sortedHeap h2 h'.objs.size (as.map Value.ref) (bs.map Value.ref).toArray) (t' := tk) (fun b ob _ e => e) (I.fpOk (Nat.le_of_lt hlt) hn0) ⟨hlen, bs.map Value.ref, eF, vals_refs bs, heF⟩
    obtain ⟨H2, I3, g, qt⟩ := takeT (P := fun b vs => ∃ (j : Nat) (kv : List L2.Key × V) (kq : Addr), as[j]? = some b ∧ kvs[j]? = some kv ∧ vs = [.ref kq, kv.2] ∧ H kq = some (.tup (kv.1.map kV))) I as _ I2 nd fun b hb => by
      obtain ⟨j, hj⟩ := List.mem_iff_getElem?.mp hb
      obtain ⟨kv, kq, vv, he, hkq, hrv, hg⟩ := pr j b hj
      have hbl : s.heap.objs.size ≤ b := Nat.le_of_lt (hG.above b hb)
      refine ⟨hbl, ?_, [.ref kq, kv.2], ⟨j, kv, kq, hj, he, rfl, hkq⟩, fun H3 => ⟨(by rw [sizeLine_eq]; show 2 ≤ 16777216; omega), [Value.ref kq, vv], .cons rfl (.cons hrv .nil), ⟨_, kF _ _ (ne0 _ _ hg) (ka _ _ hg), rfl, 0, rfl⟩⟩⟩
      rw [upd_ne (ne0 _ _ hg)]
      exact I.hok.fresh hbl
    have gr : Ex H H2 := fun b o e => g b o (by rw [upd_ne (ne_of_none e hn0)]; exact e)
    refine ⟨.ref h'.objs.size, H2, I3, rfl, q H2 h'.objs.size (bs.map V.ref) gr hn0 (g _ _ upd_same) ?_⟩
    refine each_of_ix (by rw [List.length_map]; exact hbs.length) fun i y d hy hd => ?_
    rw [List.getElem?_map] at hy
    cases hbi : bs[i]? with
    | none => rw [hbi] at hy; exact nomatch hy
    | some b =>
      rw [hbi] at hy
      obtain ⟨d', k1, j, kv, dv, j1, j2, j3, j4⟩ := each_get hbs hbi
      rw [hd] at k1
      cases Option.some.inj k1
      obtain ⟨vs, ⟨j', kv', kq, i1, i2, i3, i4⟩, hH⟩ := qt b (List.mem_of_getElem? j1)
      have eij : j' = j := (List.getElem?_inj (List.getElem?_eq_some_iff.mp i1).1 nd).mp (i1.trans j1.symm)
      subst eij
      cases Option.some.inj (i2.symm.trans j2)
      rw [i3] at hH
      exact ⟨b, kq, kv, dv, (Option.some.inj hy).symm, I.hok.fresh (Nat.le_of_lt (hG.above b (List.mem_of_getElem? j1))), hH, i4, j3, j4⟩
end

class FlE {α : Type} (f : α → PyData) : Prop where
  fl : ∀ {B : Hp} {v : V} {a : α}, Dq B v (f a) → Fl v (f a)
instance : FlE dI := ⟨fun {B v a} h => by have h' : Dq B v (.int a) := h; cases h'; exact .int a⟩
theorem Fl.dq {B : Hp} {v : V} {d : PyData} (h : Fl v d) : Dq B v d := by cases h <;> constructor
theorem kD_U (k : List Int) : .tuple ((kU k).map kD) = dU dI k := by
  show PyData.tuple _ = .tuple _
  unfold kU
  rw [List.map_map]
  rfl
theorem dqa_keys {B : Hp} : ∀ ks : List Key, DqAll B (ks.map kV) (ks.map kD)
  | [] => .nil
  | k :: ks => .cons (fl_k k).dq (dqa_keys ks)
section
variable {K : PySem.W.Frag} {ds : List SD} {m m1 : M} {α : Type} [DecidableEq α] {td : TE} {l : Addr}
theorem kv_each {B : Hp} (f : α → PyData) [FlE f] : ∀ {kvs : List (List Int × α)} {ws : List (List Key × V)}, KvOk B (eK kU f kvs) ws →
    PySem.W.EachIs (fun (kv : List Key × V) d => ∃ dv, d = .tuple [.tuple (kv.1.map kD), dv] ∧ Fl kv.2 dv) ws (kvs.map (dP (dU dI) f))
  | [], [], _ => .nil
  | [], _ :: _, h => h.elim
  | _ :: _, [], h => h.elim
  | p :: kvs, w :: ws, h => .cons ⟨f p.2, by
      have e : kU p.1 = w.1 := h.1.1
      rw [← e, kD_U]
      rfl, FlE.fl h.1.2⟩ (kv_each f h.2)
theorem ev_sortItems (f : α → PyData) [EncO f] [FlE f] (j : Nat) {kvs : List (List Int × α)} (hd : Ev K td ds m (.rf l) m1) (hj : m1[j]? = some (l, KK.cell f kvs)) (hdep : Enc.dep (dP (dU dI) f) ≤ 60) :
    Ev K (tCB rSortItD (tCons (tBM0 K "dict" rItemsT td) tNil)) ds m (.da (dL (dP (dU dI) f) (srt (EncO.lt (dP (dU dI) f)) kvs))) m1 := fun B H σ s st Q q =>
  hd B H σ s st _ fun x B1 H1 t1 s1 d1 => by
    have e : x = .ref l := d1
    subst e
    obtain ⟨ws, h1, h2⟩ := s1.dt hj
    refine ⟨.inr (.inr (.inl ⟨rfl, .inr ⟨ws, h1⟩⟩)), l, ws, rfl, rfl, h1, fun p hp => ?_⟩
    have t2 := Tr.data (o := itemsO p l) s1 hp
    have s2 := s1.data (o := itemsO p l) hp
    have hpl : p ≠ l := fun z => by rw [z, h1] at hp; cases hp
    refine ⟨p, l, ws, kvs.map (dP (dU dI) f), rfl, upd_same, by rw [upd_ne (Ne.symm hpl)]; exact h1, kv_each f h2, (alike_enc kvs).1, fun d hd' => ?_, fun H' lp ys ex hn hl he => ?_⟩
    · obtain ⟨a, _, rfl⟩ := List.mem_map.mp hd'
      exact Nat.le_trans (Enc.dep_le a) hdep
    · obtain ⟨t3, s3⟩ := Tr.fill s2 ex
      refine q _ _ _ ((t1.trans t2).trans t3) s3 ?_
      rw [srt_map] at he
      refine Dq.lst (by rw [fill_new hn]; exact hl) (each_dqa (he.mono fun y d ⟨b, kq, kv, dv, e1, e2, e3, e4, e5, e6⟩ => ?_))
      rw [e1, e5]
      exact Dq.tup (by rw [fill_new e2]; exact e3) (.cons (Dq.tup (by rw [fill_tup e4]; exact ex _ _ e4) (dqa_keys _)) (.cons e6.dq .nil))
end
end FC
set_option maxHeartbeats 400000
/-! FE: the orders are total; a sorted list is told by its items. Plain Lean. -/
namespace FC
open PySem
class Tot {α : Type} (lt : α → α → Bool) : Prop where
  irr : ∀ a, lt a a = false
  tri : ∀ a b, lt a b = false → lt b a = false → a = b
  tr : ∀ a b c, lt a b = true → lt b c = true → lt a c = true
section
variable {α β : Type} {lt : α → α → Bool} {lt2 : β → β → Bool}
theorem Tot.asym (T : Tot lt) {a b : α} (h : lt a b = true) : lt b a = false := by
  cases e : lt b a with
  | false => rfl
  | true =>
    have := T.tr a b a h e
    rw [T.irr] at this
    cases this
/-- not greater is passed on -/
theorem Tot.ntr (T : Tot lt) {a b c : α} (h1 : lt b a = false) (h2 : lt c b = false) : lt c a = false := by
  cases e : lt c a with
  | false => rfl
  | true =>
    cases e1 : lt a b with
    | true =>
      have := T.tr c a b e e1
      rw [h2] at this
      cases this
    | false =>
      have := T.tri a b e1 h1
      subst this
      rw [h2] at e
      cases e
instance : Tot ltI := ⟨fun a => decide_eq_false (Int.lt_irrefl a), fun a b h1 h2 => by
  have := of_decide_eq_false h1
  have := of_decide_eq_false h2
  omega, fun a b c h1 h2 => decide_eq_true (Int.lt_trans (of_decide_eq_true h1) (of_decide_eq_true h2))⟩
theorem str_ext {a b : Str} (h : a.cps.toList = b.cps.toList) : a = b := by
  cases a
  cases b
  congr 1
  exact Array.toList_inj.mp h
instance : Tot ltS := ⟨fun a => decide_eq_false (List.lt_irrefl _), fun a b h1 h2 => by
  have h3 := of_decide_eq_false h1
  have h4 := of_decide_eq_false h2
  exact str_ext (List.le_antisymm (List.not_lt.mp h4) (List.not_lt.mp h3)), fun a b c h1 h2 => decide_eq_true (List.lt_trans (of_decide_eq_true h1) (of_decide_eq_true h2))⟩
instance [DecidableEq α] [T : Tot lt] : Tot (ltL lt) where
  irr xs := by
    induction xs with
    | nil => rfl
    | cons x xs ih =>
      show (if x = x then ltL lt xs xs else lt x x) = false
      rw [if_pos rfl, ih]
  tri xs := by
    induction xs with
    | nil =>
      intro ys h1 _
      cases ys with
      | nil => rfl
      | cons y ys => cases h1
    | cons x xs ih =>
      intro ys h1 h2
      cases ys with
      | nil => cases h2
      | cons y ys =>
        have h1' : (if x = y then ltL lt xs ys else lt x y) = false := h1
        have h2' : (if y = x then ltL lt ys xs else lt y x) = false := h2
        by_cases e : x = y
        · subst e
          rw [if_pos rfl] at h1' h2'
          rw [ih ys h1' h2']
        · rw [if_neg e] at h1'
          rw [if_neg (fun z => e z.symm)] at h2'
          exact absurd (T.tri x y h1' h2') e
  tr xs := by
    induction xs with
    | nil =>
      intro ys zs h1 h2
      cases ys with
      | nil => cases h1
      | cons y ys =>
        cases zs with
        | nil => cases h2
        | cons z zs => rfl
    | cons x xs ih =>
      intro ys zs h1 h2
      cases ys with
      | nil => cases h1
      | cons y ys =>
        cases zs with
        | nil => cases h2
        | cons z zs =>
          have h1' : (if x = y then ltL lt xs ys else lt x y) = true := h1
          have h2' : (if y = z then ltL lt ys zs else lt y z) = true := h2
          show (if x = z then ltL lt xs zs else lt x z) = true
          by_cases e : x = y
          · subst e
            rw [if_pos rfl] at h1'
            by_cases e2 : x = z
            · rw [if_pos e2] at h2'
              rw [if_pos e2]
              exact ih ys zs h1' h2'
            · rw [if_neg e2] at h2'
              rw [if_neg e2]
              exact h2'
          · rw [if_neg e] at h1'
            by_cases e2 : y = z
            · subst e2
              rw [if_neg e]
              exact h1'
            · rw [if_neg e2] at h2'
              have h3 := T.tr x y z h1' h2'
              by_cases e3 : x = z
              · subst e3
                rw [T.irr] at h3
                cases h3
              · rw [if_neg e3]
                exact h3
instance [DecidableEq α] [T : Tot lt] [T2 : Tot lt2] : Tot (ltP lt lt2) where
  irr p := by
    unfold ltP
    rw [if_pos rfl]
    exact T2.irr _
  tri p q h1 h2 := by
    unfold ltP at h1 h2
    by_cases e : p.1 = q.1
    · rw [if_pos e] at h1
      rw [if_pos e.symm] at h2
      exact Prod.ext e (T2.tri _ _ h1 h2)
    · rw [if_neg e] at h1
      rw [if_neg (fun z => e z.symm)] at h2
      exact absurd (T.tri _ _ h1 h2) e
  tr p q r h1 h2 := by
    unfold ltP at h1 h2 ⊢
    by_cases e : p.1 = q.1
    · rw [if_pos e] at h1
      by_cases e2 : q.1 = r.1
      · rw [if_pos e2] at h2
        rw [if_pos (e.trans e2)]
        exact T2.tr _ _ _ h1 h2
      · rw [if_neg e2] at h2
        rw [if_neg (fun z => e2 (e.symm.trans z)), e]
        exact h2
    · rw [if_neg e] at h1
      by_cases e2 : q.1 = r.1
      · rw [if_neg (fun z => e (z.trans e2.symm)), ← e2]
        exact h1
      · rw [if_neg e2] at h2
        have h3 := T.tr _ _ _ h1 h2
        by_cases e3 : p.1 = r.1
        · rw [e3, T.irr] at h3
          cases h3
        · rw [if_neg e3]
          exact h3
theorem srt_pw [T : Tot lt] (xs : List α) : (srt lt xs).Pairwise fun a b => lt b a = false := by
  have := List.pairwise_mergeSort (le := fun a b => !lt b a) (fun a b c h1 h2 => by
    have h1' : lt b a = false := by simpa using h1
    have h2' : lt c b = false := by simpa using h2
    simpa using T.ntr h1' h2') (fun a b => by
    cases e : lt b a with
    | false => rfl
    | true => rw [T.asym e]; rfl) xs
  exact this.imp fun h => by simpa using h
theorem srt_perm (xs : List α) : (srt lt xs).Perm xs := List.mergeSort_perm _ _
theorem srt_uniq [T : Tot lt] {xs ys : List α} (p : ys.Perm xs) (h : ys.Pairwise fun a b => lt b a = false) : srt lt xs = ys :=
  List.Perm.eq_of_pairwise (le := fun a b => lt b a = false) (fun a b _ _ h1 h2 => T.tri a b h2 h1) (srt_pw xs) h ((srt_perm xs).trans p.symm)
theorem srt_eq_perm [T : Tot lt] {xs ys : List α} (p : ys.Perm xs) : srt lt ys = srt lt xs := srt_uniq ((srt_perm xs).trans p.symm) (srt_pw xs)
end
end FC
set_option maxHeartbeats 400000
/-! FW: while with no bound told, list(range(..)), lists of lists that are changed, literal tuples walked. -/
namespace FC
open PySem PySem.Spec PyProof.Rows L2 Evl
section
variable {S : Type}
open Classical in
noncomputable def whiL (cond : S → Option Bool) (step : S → Option S) (s : S) : Option S := if h : ∃ n r, whiF cond step n s = some r then whiF cond step h.choose s else none
theorem whiL_some {cond : S → Option Bool} {step : S → Option S} {s r : S} (h : whiL cond step s = some r) : ∃ n, whiF cond step n s = some r := by
  unfold whiL at h
  split at h
  · exact ⟨_, h⟩
  · cases h
theorem whiF_det {cond : S → Option Bool} {step : S → Option S} : ∀ {n m : Nat} {s r r' : S}, whiF cond step n s = some r → whiF cond step m s = some r' → r = r'
  | 0, _, _, _, _, h, _ => by cases h
  | _ + 1, 0, _, _, _, _, h => by cases h
  | n + 1, m + 1, s, r, r', h, h' => by
    obtain ⟨b, h1, h2⟩ := bindS h
    obtain ⟨b', g1, g2⟩ := bindS h'
    rw [h1] at g1
    cases Option.some.inj g1
    cases b with
    | true =>
      obtain ⟨s1, h3, h4⟩ := bindS h2
      obtain ⟨s2, g3, g4⟩ := bindS g2
      rw [h3] at g3
      cases Option.some.inj g3
      exact whiF_det h4 g4
    | false => exact (Option.some.inj h2).symm.trans (Option.some.inj g2)
theorem whiL_of {cond : S → Option Bool} {step : S → Option S} {n : Nat} {s r : S} (h : whiF cond step n s = some r) : whiL cond step s = some r := by
  unfold whiL
  have hx : ∃ n r, whiF cond step n s = some r := ⟨n, r, h⟩
  rw [dif_pos hx]
  obtain ⟨r', h'⟩ := hx.choose_spec
  rw [h', whiF_det h h']
end
section
variable {F : Fx} {D : Ends} {ds : List SD} {m m1 m2 m3 pre : M} {α β S : Type} {wi : TI} {g : TG} {G : M → Prop} {items : List α} {up : α → List SD → List SD} {js : List Nat} {tb tz ts : TS} {tt : TT} {K : PySem.W.Frag} {B H : Hp} {te ti to tx ta tl : TE} {f : β → PyData}
theorem wp_whiL (dF : S → List SD) (mF : S → M) {cond : S → Option Bool} {step : S → Option S} {s0 sN : S} (h : whiL cond step s0 = some sN) (hw : Wks ds (dF s0)) (hm : m = mF s0)
    (test : ∀ s b, cond s = some b → EvT F.K tt (dF s) (mF s) b (mF s))
    (body : ∀ s s', cond s = some true → step s = some s' → ∀ D', D'.rt = D.rt → (∀ σ H, At F (dF s') (mF s') σ H → D'.nx σ H) → (∀ σ H, At F (dF s') (mF s') σ H → D'.ct σ H) → Wp F tb D' (dF s) (mF s))
    (k : cond sN = some false → Wp F tz D (dF sN) (mF sN)) : Wp F (tSeq (tWhile tt tb) tz) D ds m := by
  obtain ⟨n, h2⟩ := whiL_some h
  exact wp_whi dF mF h2 hw hm test body k
/-! ### list(range(..)) -/
theorem dqa_rng (a b : Int) : DqAll B (rgV a b) ((rng a b).map dI) := by
  unfold rgV rng
  rw [List.map_map]
  generalize List.range (b - a).toNat = l
  induction l with
  | nil => exact .nil
  | cons x l ih => exact .cons (.int _) ih
theorem rgOk_of {a b : Int} {l : List Int} (h : rngG a b = some l) (hn : lenG l.length = some ()) : RgOk a b ∧ l = rng a b := by
  obtain ⟨⟨h1, h2, h3, h4⟩, h5⟩ := rngG_some h
  have h6 := lenG_some hn
  have e : l.length = (b - a).toNat := by
    rw [← h5]
    unfold rng
    rw [List.length_map, List.length_range]
  exact ⟨⟨h1, h2, h3, h4, by omega⟩, h5.symm⟩
theorem ev_listRg1 {n : Int} {l : List Int} (h : Ev K ta ds m (.da (dI n)) m1) (hr : rngG 0 n = some l) (hn : lenG l.length = some ()) : Ev K (tLstRg (tRg1 ta)) ds m (.da (dL dI l)) m1 := fun B H σ s st Q q => h B H σ s st _ fun v B1 H1 t1 s1 d1 => by
  obtain ⟨ok, e⟩ := rgOk_of hr hn
  subst e
  exact ⟨n, int_of d1, ok, fun p hp => q _ _ _ (t1.trans (Tr.data s1 hp)) (s1.data hp) (.lst upd_same (dqa_rng 0 n))⟩
theorem ev_listRg2 {i n : Int} {l : List Int} (h0 : Ev K ta ds m (.da (dI i)) m1) (h : Ev K ti ds m1 (.da (dI n)) m2) (hr : rngG i n = some l) (hn : lenG l.length = some ()) : Ev K (tLstRg (tRg2 ta ti)) ds m (.da (dL dI l)) m2 := fun B H σ s st Q q => h0 B H σ s st _ fun u B0 H0 t0 s0 d0 => h B0 H0 σ s0 (st_mono t0.ex st) _ fun v B1 H1 t1 s1 d1 => by
  obtain ⟨ok, e⟩ := rgOk_of hr hn
  subst e
  exact ⟨i, n, int_of d0, int_of d1, ok, fun p hp => q _ _ _ ((t0.trans t1).trans (Tr.data s1 hp)) (s1.data hp) (.lst upd_same (dqa_rng i n))⟩
/-! ### a list of lists, both changed -/
def nest (f : β → PyData) (l : Addr) (ps : List Addr) (dss : List (List β)) : M := if ps.length = dss.length then (l, .lr (ps.map SD.rf)) :: List.zipWith (fun p xs => (p, CD.ls (xs.map f))) ps dss else [(l, .raw (.tup []))]
theorem nest_len {l : Addr} {ps : List Addr} {dss : List (List β)} (s : SOk K B (pre ++ nest f l ps dss) H) : ps.length = dss.length := by
  by_cases h : ps.length = dss.length
  · exact h
  · exfalso
    have hm : (l, CD.raw (.tup [])) ∈ pre ++ nest f l ps dss := List.mem_append_right _ (by unfold nest; rw [if_neg h]; exact List.mem_cons_self)
    obtain ⟨o, _, hc⟩ := s.cel _ hm
    cases o <;> first | exact hc.2 _ rfl | exact hc.elim
theorem nest_eq {l : Addr} {ps : List Addr} {dss : List (List β)} (h : ps.length = dss.length) : nest f l ps dss = (l, .lr (ps.map SD.rf)) :: List.zipWith (fun p xs => (p, CD.ls (xs.map f))) ps dss := by
  unfold nest
  rw [if_pos h]
theorem nest_at {l p : Addr} {ps : List Addr} {dss : List (List β)} {i : Nat} {xs : List β} (h : ps.length = dss.length) (h1 : ps[i]? = some p) (h2 : dss[i]? = some xs) : (pre ++ nest f l ps dss)[pre.length + (i + 1)]? = some (p, .ls (xs.map f)) := by
  rw [List.getElem?_append_right (by omega), nest_eq h, Nat.add_sub_cancel_left, List.getElem?_cons_succ, List.getElem?_zipWith, h1, h2]
theorem nest_set {l p : Addr} {ps : List Addr} {dss : List (List β)} {i : Nat} {ys : List β} (h : ps.length = dss.length) (h1 : ps[i]? = some p) : (pre ++ nest f l ps dss).set (pre.length + (i + 1)) (p, .ls (ys.map f)) = pre ++ nest f l ps (dss.set i ys) := by
  rw [List.set_append_right _ _ (by omega), Nat.add_sub_cancel_left, nest_eq h, nest_eq (by rw [List.length_set]; exact h), List.set_cons_succ]
  congr 2
  refine List.ext_getElem? fun j => ?_
  rw [List.getElem?_set, List.getElem?_zipWith, List.getElem?_zipWith, List.getElem?_set]
  by_cases e : i = j
  · subst e
    rw [if_pos rfl, if_pos rfl, List.length_zipWith, h1]
    have hlt := (List.getElem?_eq_some_iff.mp h1).1
    rw [if_pos (by omega), if_pos (by omega)]
  · rw [if_neg e, if_neg e]
theorem sda_app {p : Addr} : ∀ {es : List SD} {vs : List V}, SdAll K B es vs → SdAll K B (es ++ [.rf p]) (vs ++ [.ref p])
  | [], [], _ => ⟨rfl, True.intro⟩
  | _ :: _, _ :: _, h => ⟨h.1, sda_app h.2⟩
  | [], _ :: _, h => h.elim
  | _ :: _, [], h => h.elim
theorem sda_refs : ∀ {ps : List Addr} {vs : List V}, SdAll K B (ps.map SD.rf) vs → vs = ps.map V.ref
  | [], [], _ => rfl
  | _ :: ps, _ :: vs, h => by
    have e : _ = V.ref _ := h.1
    rw [e, sda_refs h.2]
    rfl
  | [], _ :: _, h => h.elim
  | _ :: _, [], h => h.elim
theorem SOk.lr {j : Nat} {l : Addr} {es : List SD} (s : SOk K B m H) (hm : m[j]? = some (l, .lr es)) : ∃ vs, H l = some (.lst vs) ∧ SdAll K B es vs := by
  obtain ⟨o, h, c⟩ := s.at hm
  cases o <;> first | exact ⟨_, h, c⟩ | exact c.elim
theorem lcNest {vs : List Nat} (hs : Src K wi g ds m m1 G items up js) (hjs : ∀ j ∈ js, j ∈ vs) (hG : ∀ c, G (m1 ++ c)) (hn : lenG items.length = some ()) (body : ∀ x, x ∈ items → ∀ m, EvN K te (up x (wipeD ds vs)) m (.ls ([] : List PyData)) m) :
    ∀ B H σ, SOk K B m H → StOk K B ds σ → ∀ Q : VK, (∀ l ps B2 H2, Tr B H (keys m) B2 H2 (keys (m1 ++ nest f l ps (items.map fun _ => []))) → SOk K B2 (m1 ++ nest f l ps (items.map fun _ => [])) H2 → Q (.ref l) H2) → tLc wi g tYes te vs σ H Q := by
  intro B H σ s st Q q
  have hn := lenG_some hn
  refine hs B H σ s st _ fun J B1 H1 t1 s1 T D hD => ?_
  refine ⟨fun i k H' => k = items.length - i ∧ i ≤ items.length ∧ ∃ B' ps, Tr B H (keys m) B' H' (keys (m1 ++ nest f D ps ((items.take i).map fun _ => []))) ∧ Ex B1 B' ∧ SOk K B' (m1 ++ nest f D ps ((items.take i).map fun _ => [])) H',
    ⟨items.length, by simp, Nat.zero_le _, B1, [], t1.trans (Tr.cell s1 hD), Ex.refl _, s1.cell hD (show CdOk K B1 (.lr (([] : List Addr).map SD.rf)) (.lst []) from True.intro)⟩, ?_⟩
  rintro i k H' ⟨rfl, hi, B', ps, tr, eB, sk⟩
  have hlen := nest_len sk
  by_cases hlt : i < items.length
  · refine .inr ⟨T.1 i H' B' _ hlt eB (hG _) sk, fun H'' => i + 1 ≤ items.length ∧ ∃ B' ps, Tr B H (keys m) B' H'' (keys (m1 ++ nest f D ps ((items.take (i + 1)).map fun _ => []))) ∧ Ex B1 B' ∧ SOk K B' (m1 ++ nest f D ps ((items.take (i + 1)).map fun _ => [])) H'',
      fun H'' p => ⟨items.length - (i + 1), by omega, rfl, p⟩, fun x H'' hy => ?_⟩
    have hx : items[i]? = some items[i] := List.getElem?_eq_getElem hlt
    refine T.2.2 i items[i] x H' H'' B' _ (wipeD ds vs) (wipe σ vs) hx eB (hG _) sk (st_wipe (st_mono (t1.ex.trans eB) st) vs) hy _ fun B2 σ2 t2 s2 st2 hset => ⟨wipe_sets hset hjs, ?_⟩
    refine et_yes B2 H'' σ2 s2 st2 _ fun B3 H3 t3 s3 => iteT ?_
    refine body items[i] (List.getElem_mem hlt) _ B3 H3 σ2 s3 (st_mono t3.ex st2) _ fun p B4 H4 t4 s4 => ?_
    have hjD : ((m1 ++ nest f D ps ((items.take i).map fun _ => [])) ++ [(p, CD.ls [])])[m1.length]? = some (D, .lr (ps.map SD.rf)) := by
      rw [List.append_assoc, List.getElem?_append_right (Nat.le_refl _), Nat.sub_self, nest_eq hlen]
      rfl
    obtain ⟨ws, hw, hwa⟩ := s4.lr hjD
    have hwl : ws.length = ps.length := by rw [sda_refs hwa, List.length_map]
    have hil : (items.take i).length = i := by rw [List.length_take]; omega
    rw [List.length_map, hil] at hlen
    have hset2 : ((m1 ++ nest f D ps ((items.take i).map fun _ => [])) ++ [(p, CD.ls [])]).set m1.length (D, .lr ((ps ++ [p]).map SD.rf)) = m1 ++ nest f D (ps ++ [p]) ((items.take (i + 1)).map fun _ => []) := by
      rw [List.append_assoc, List.set_append_right _ _ (Nat.le_refl _), Nat.sub_self, nest_eq (by rw [List.length_map, hil]; exact hlen), nest_eq (by rw [List.length_append, List.length_map, List.length_take]; show ps.length + 1 = _; omega)]
      have e : items.take (i + 1) = items.take i ++ [items[i]] := (List.take_append_getElem hlt).symm
      rw [e, List.map_append, List.map_append, List.zipWith_append (by rw [List.length_map, hil]; exact hlen)]
      rfl
    have hcd : CdOk K B4 (.lr ((ps ++ [p]).map SD.rf)) (.lst (ws ++ [.ref p])) := by
      rw [List.map_append]
      exact sda_app hwa
    have t5 := Tr.put s4 hjD hcd
    have s5 := s4.put hjD hcd
    rw [hset2] at t5 s5
    exact ⟨ws, hw, by rw [sizeLine_eq]; omega, hlt, B4, ps ++ [p], (((tr.trans t2).trans t3).trans t4).trans t5, ((eB.trans t2.ex).trans t3.ex).trans t4.ex, s5⟩
  · have e : i = items.length := by omega
    subst e
    rw [List.take_length] at tr sk
    refine .inl ⟨T.2.1 H' B' _ eB (hG _) sk, q D ps B' H' tr sk⟩
theorem wp_asgNest (f : β → PyData) {i : Nat} {dss : List (List β)}
    (hc : ∀ B H σ, SOk F.K B m H → StOk F.K B ds σ → ∀ Q : VK, (∀ l ps B2 H2, Tr B H (keys m) B2 H2 (keys (m1 ++ nest f l ps dss)) → SOk F.K B2 (m1 ++ nest f l ps dss) H2 → Q (.ref l) H2) → te σ H Q) (hm : keys m1 = keys m)
    (k : ∀ l ps, l ∉ F.k0 → (∀ p ∈ ps, p ∉ F.k0) → Wp F tz D (ds.set i (.rf l)) (m1 ++ nest f l ps dss)) : Wp F (tSeq (tAsg te (gName i)) tz) D ds m := fun σ H ⟨B, st, s, t, lo⟩ =>
  hc B H σ s st _ fun l ps B2 H2 t2 s2 => by
    have hlen := nest_len s2
    have new : ∀ a ∈ keys (nest f l ps dss), a ∉ F.k0 := fun a ha z => by
      have h1 : a ∈ keys (m1 ++ nest f l ps dss) := by
        show a ∈ List.map _ _
        rw [List.map_append]
        exact List.mem_append_right _ ha
      rcases t2.kys a h1 with h2 | h2
      · have nd : (List.map (fun p : Addr × CD => p.1) (m1 ++ nest f l ps dss)).Nodup := s2.nd
        rw [List.map_append] at nd
        exact (List.nodup_append.mp nd).2.2 a (by have h3 : a ∈ keys m1 := by rw [hm]; exact h2
                                                  exact h3) a ha rfl
      · exact absurd h2 (t.grow a (F.hk a z))
    refine k l ps (new l ?_) (fun p hp => new p ?_) _ H2 ⟨B2, st_set i (st_mono t2.ex st) (sl_of (s := .rf l) rfl), s2, t.trans t2, lo.trans t2.ex⟩
    · rw [nest_eq hlen]
      exact List.mem_cons_self
    · rw [nest_eq hlen]
      refine List.mem_cons_of_mem _ ?_
      obtain ⟨j, hj⟩ := List.mem_iff_getElem?.mp hp
      have hjl : j < dss.length := by rw [← hlen]; exact (List.getElem?_eq_some_iff.mp hj).1
      refine List.mem_map.mpr ⟨(p, CD.ls (dss[j].map f)), List.mem_of_getElem? (i := j) ?_, rfl⟩
      rw [List.getElem?_zipWith, hj, List.getElem?_eq_getElem hjl]
/-- the inner ones frozen -/
theorem frz_all {l : Addr} {es : List SD} {k : List Addr} {B0 H0 : Hp} (hk : ∀ a ∈ k, H0 a ≠ none) : ∀ {ps : List Addr} {dss : List (List β)} {B : Hp}, ps.length = dss.length → (∀ p ∈ ps, p ∉ k) → SOk K B (pre ++ (l, .lr es) :: List.zipWith (fun p xs => (p, CD.ls (xs.map f))) ps dss) H →
    Tr B0 H0 k B H (keys (pre ++ (l, .lr es) :: List.zipWith (fun p xs => (p, CD.ls (xs.map f))) ps dss)) → ∃ B', Ex B B' ∧ SOk K B' (pre ++ [(l, .lr es)]) H ∧ Tr B0 H0 k B' H (keys (pre ++ [(l, .lr es)])) ∧ DqAll B' (ps.map V.ref) (dss.map (dL f))
  | [], [], B, _, _, s, t => ⟨B, Ex.refl _, s, t, .nil⟩
  | [], _ :: _, _, h, _, _, _ => by cases h
  | _ :: _, [], _, h, _, _, _ => by cases h
  | p :: ps, xs :: dss, B, h, hp, s, t => by
    have hj : (pre ++ (l, CD.lr es) :: List.zipWith (fun p xs => (p, CD.ls (xs.map f))) (p :: ps) (xs :: dss))[pre.length + 1]? = some (p, .ls (xs.map f)) := by
      rw [List.getElem?_append_right (by omega), Nat.add_sub_cancel_left]
      rfl
    have he : (pre ++ (l, CD.lr es) :: List.zipWith (fun p xs => (p, CD.ls (xs.map f))) (p :: ps) (xs :: dss)).eraseIdx (pre.length + 1) = pre ++ (l, CD.lr es) :: List.zipWith (fun p xs => (p, CD.ls (xs.map f))) ps dss := by
      rw [List.eraseIdx_append_of_length_le (by omega), Nat.add_sub_cancel_left]
      rfl
    obtain ⟨ws, h1, h2⟩ := s.ls hj
    have hB : B p = none := s.out (p, .ls (xs.map f)) (List.mem_of_getElem? hj)
    have s2 := s.frz hj h1
    have t2 := t.frz s hk (o := .lst ws) hj (hp p List.mem_cons_self)
    rw [he] at s2 t2
    have ee := Ex.new (o := HO.lst ws) hB
    obtain ⟨B', e, s3, t3, d3⟩ := frz_all hk (ps := ps) (dss := dss) (Nat.succ.inj h) (fun q hq => hp q (List.mem_cons_of_mem _ hq)) s2 t2
    exact ⟨B', ee.trans e, s3, t3, .cons (Dq.lst (e _ _ upd_same) (dpa_mono (ee.trans e) h2)) d3⟩
theorem wp_frzN {i : Nat} {l : Addr} {ps : List Addr} {dss : List (List β)} (hi : ds[i]? = some (.rf l)) (hl : l ∉ F.k0) (hps : ∀ p ∈ ps, p ∉ F.k0) (k : Wp F ts D (ds.set i (.da (dL (dL f) dss))) pre) : Wp F ts D ds (pre ++ nest f l ps dss) := fun σ H ⟨B, st, s, t, lo⟩ => by
  have hlen := nest_len s
  rw [nest_eq hlen] at s t
  obtain ⟨B', e1, s1, t1, d1⟩ := frz_all F.hk hlen hps s t
  have hj : (pre ++ [(l, CD.lr (ps.map SD.rf))])[pre.length]? = some (l, .lr (ps.map SD.rf)) := by
    rw [List.getElem?_append_right (Nat.le_refl _), Nat.sub_self]
    rfl
  obtain ⟨vs, h1, h2⟩ := s1.lr hj
  have hB : B' l = none := s1.out (l, .lr (ps.map SD.rf)) (List.mem_of_getElem? hj)
  have s2 := s1.frz hj h1
  have t2 := t1.frz s1 F.hk (o := .lst vs) hj hl
  have he : (pre ++ [(l, CD.lr (ps.map SD.rf))]).eraseIdx pre.length = pre := by
    rw [List.eraseIdx_append_of_length_le (Nat.le_refl _), Nat.sub_self]
    exact List.append_nil _
  rw [he] at s2 t2
  have ee := Ex.new (o := HO.lst vs) hB
  obtain ⟨o, e, w⟩ := st_get st hi
  obtain ⟨v, rfl, w⟩ := sl_some (s := .rf l) (fun z => nomatch z) w
  have ev : v = .ref l := w
  subst ev
  have hd : DqAll (upd B' l (.lst vs)) vs (dss.map (dL f)) := by
    have e2 := sda_refs h2
    rw [← e2] at d1
    exact dpa_mono ee d1
  have st2 := st_set (K := F.K) i (st_mono (e1.trans ee) st) (s := .da (dL (dL f) dss)) (o := some (.ref l)) (Dq.lst upd_same hd)
  rw [set_same e] at st2
  exact k σ H ⟨_, st2, s2, t2, lo.trans (e1.trans ee)⟩
/-- xss[i].append(x) -/
def napp (dss : List (List β)) (i : Int) (x : β) : Option (List (List β)) := (ixN dss.length i).bind fun j => (dss[j]?).bind fun d => (lenG d.length).bind fun _ => some (dss.set j (d ++ [x]))
theorem ev_napp {l : Addr} {ps : List Addr} {dss dss' : List (List β)} {i : Int} {x : β} {t : TA} (ho : Ev K to ds m (.rf l) m1) (hi : Ev K ti ds m1 (.da (dI i)) (pre ++ nest f l ps dss)) (h : EvA K t ds (pre ++ nest f l ps dss) [.da (f x)] (pre ++ nest f l ps dss)) (hn : napp dss i x = some dss') :
    Ev K (tBM K "list" rAppend (tOp (rIxL K) to ti) t) ds m (.da .none) (pre ++ nest f l ps dss') := fun B H σ s st Q q =>
  ho B H σ s st _ fun u B1 H1 t1 s1 d1 => hi B1 H1 σ s1 (st_mono t1.ex st) _ fun y B2 H2 t2 s2 d2 => by
    have eu : u = .ref l := d1
    subst eu
    have hlen := nest_len s2
    obtain ⟨j, e1, hn⟩ := bindS hn
    obtain ⟨d, e2, hn⟩ := bindS hn
    obtain ⟨_, e3, hn⟩ := bindS hn
    have e4 := Option.some.inj hn
    subst e4
    have hjl : j < ps.length := by rw [hlen]; exact (List.getElem?_eq_some_iff.mp e2).1
    have hp := List.getElem?_eq_getElem hjl
    have hj0 : (pre ++ nest f l ps dss)[pre.length]? = some (l, .lr (ps.map SD.rf)) := by
      rw [List.getElem?_append_right (Nat.le_refl _), Nat.sub_self, nest_eq hlen]
      rfl
    obtain ⟨vs, h1, h2⟩ := s2.lr hj0
    have ev := sda_refs h2
    subst ev
    have hat : atI (ps.map V.ref) i = some (.ref ps[j]) := by
      unfold atI
      rw [List.length_map, hlen, e1]
      show (ps.map V.ref)[j]? = _
      rw [List.getElem?_map, hp]
      rfl
    refine ⟨l, ps.map V.ref, i, .ref ps[j], rfl, int_of d2, SqL.of h1, hat, ?_⟩
    have hjj := nest_at (pre := pre) (f := f) (l := l) hlen hp e2
    obtain ⟨ws, g1, g2⟩ := s2.ls hjj
    refine ⟨tyv_of (B := B2) g1, h B2 H2 σ s2 (st_mono (t1.ex.trans t2.ex) st) _ fun as B3 H3 t3 s3 d3 => ?_⟩
    refine rm_app (pre.length + (j + 1)) hjj e3 B3 H3 _ _ s3 rfl d3 Q fun v B4 H4 t4 s4 d4 => ?_
    rw [nest_set hlen hp] at t4 s4
    exact q v B4 H4 (((t1.trans t2).trans t3).trans t4) s4 d4
theorem eqv_non_l {d : PyData} (h : d ≠ .none) : PyData.eqv .none d = false := by
  cases d <;> first | exact absurd rfl h | rfl | simp [PyData.eqv]
theorem eqv_non_r {d : PyData} (h : d ≠ .none) : PyData.eqv d .none = false := by
  cases d <;> first | exact absurd rfl h | rfl | simp [PyData.eqv]
instance instEncO {α : Type} {f : α → PyData} [DecidableEq α] [Enc f] [NotNo f] : Enc (dO f) where
  plain o := by
    cases o with
    | none => rfl
    | some a => exact Enc.plain a
  eqv a b := by
    cases a with
    | none =>
      cases b with
      | none => rfl
      | some b => exact (eqv_non_l (NotNo.no b)).trans (decide_eq_false (fun z => nomatch z)).symm
    | some a =>
      cases b with
      | none => exact (eqv_non_r (NotNo.no a)).trans (decide_eq_false (fun z => nomatch z)).symm
      | some b =>
        show PyData.eqv (f a) (f b) = _
        rw [Enc.eqv]
        exact decide_eq_decide.mpr ⟨fun e => by rw [e], fun e => Option.some.inj e⟩
  dep := Enc.dep f
  dep_le o := by
    cases o with
    | none => exact Nat.zero_le _
    | some a => exact Enc.dep_le a
theorem rr_catU {α : Type} {f : α → PyData} {xs ys : List α} (hz : lenG (xs.length + ys.length) = some ()) : Rr K (rCatA K) (.da (dU f xs)) (.da (dU f ys)) m (.da (dU f (xs ++ ys))) m := fun B H x y s dx dy Q q => by
  obtain ⟨p, vs, rfl, hp, ha⟩ := tup_of dx
  obtain ⟨p2, vs2, rfl, hp2, ha2⟩ := tup_of dy
  have h1 := dpa_len ha
  have h2 := dpa_len ha2
  have h3 := lenG_some hz
  rw [List.length_map] at h1 h2
  refine ⟨p, p2, vs, vs2, rfl, rfl, SqT.of (s.ext _ _ hp), SqT.of (s.ext _ _ hp2), by rw [sizeLine_eq]; omega, fun e => ?_, fun _ e => ?_, fun _ _ l hl => q _ _ _ (Tr.data s hl) (s.data hl) (Dq.tup upd_same (dpa_mono (Ex.new (fresh_b s hl)) ?_))⟩
  · have e1 : xs = [] := by
      rw [e] at h1
      exact List.length_eq_zero_iff.mp h1.symm
    subst e1
    exact q _ _ _ (Tr.refl _ _ _) s dy
  · have e1 : ys = [] := by
      rw [e] at h2
      exact List.length_eq_zero_iff.mp h2.symm
    subst e1
    rw [List.append_nil] at q
    exact q _ _ _ (Tr.refl _ _ _) s dx
  · rw [List.map_append]
    exact dqa_app ha ha2
theorem src_UP {α : Type} {f : α → PyData} {f2 : β → PyData} {xs : List (α × β)} {j k : Nat} (h : Ev K tl ds m (.da (dU (dP f f2) xs)) m1) : Src K (iTup K tl) (gTup K 2 (gCons (gName j) (gCons (gName k) gNil))) ds m m1 (fun _ => True) xs (fun p ds => (ds.set j (.da (f p.1))).set k (.da (f2 p.2))) ([j] ++ [k]) := fun B H σ s st R q => h B H σ s st _ fun v B1 H1 t1 s1 d1 => by
  obtain ⟨p, vs, rfl, hp, ha⟩ := tup_of d1
  have hl := dpa_len ha
  rw [List.length_map] at hl
  have hL : ∀ {H B' m'}, Ex B1 B' → SOk K B' m' H → SqT K H p vs := fun e s => SqT.of (s.ext _ _ (e _ _ hp))
  refine ⟨p, rfl, ⟨vs, SqT.of (s1.ext _ _ hp)⟩, q _ B1 H1 t1 s1 ⟨fun i H B' m' hi e g s => ?_, fun H B' m' e g s => ⟨vs, hL e s, Nat.le_of_eq hl⟩, fun i x v H H' B' m' ds σ hx e g s st hy Q q => ?_⟩⟩
  · have hi' : i < vs.length := by omega
    exact ⟨vs, vs[i], hL e s, List.getElem?_eq_getElem hi'⟩
  · obtain ⟨rfl, y2⟩ := hy
    obtain ⟨w, h1, h2⟩ := dqa_some ha hx
    have h3 := y2 vs (hL e s)
    rw [h1] at h3
    have e3 := Option.some.inj h3
    subst e3
    obtain ⟨T, x1, x2, rfl, h4, h5, h6⟩ := pair_of (K := K) (show SdOk K B1 (.da (dP f f2 x)) w from h2)
    refine ⟨T, [x1, x2], rfl, SqT.of (s.ext _ _ (e _ _ h4)), rfl, x1, [x2], rfl, x2, [], rfl, rfl, ?_⟩
    exact q B' _ (Tr.refl _ _ _) s (st_set k (st_set j st (sl_of (s := .da (f x.1)) (dp_mono e h5))) (sl_of (s := .da (f2 x.2)) (dp_mono e h6))) (sets1.trans sets1)
end
end FC
set_option maxHeartbeats 400000
/-! FO: instances of the program's own classes: fields, methods, making. -/
namespace FC
open PySem PySem.Spec PyProof.Rows L2 Evl
/-- an instance: its fields by the class's names, in the order of their first store -/
def obj (C dx : Addr) (names : List Str) (sds : List SD) : CD := .ins C dx (names.zip sds)
/-- f stands at i among the names, not ahead of it -/
def PutAt (f : Str) (names : List Str) (i : Nat) : Prop := names[i]? = some f ∧ f ∉ names.take i
instance (f : Str) (names : List Str) (i : Nat) : Decidable (PutAt f names i) := by unfold PutAt; infer_instance
section
variable {K : PySem.W.Frag} {B H : Hp} {α : Type}
theorem lookup_at {f : Str} : ∀ {ws : List (Str × V)} {i : Nat} {v : V}, ws[i]? = some (f, v) → f ∉ (ws.take i).map (·.1) → ws.lookup f = some v
  | [], _, _, h, _ => by simp at h
  | (g, x) :: ws, 0, v, h, _ => by
    have e := Option.some.inj h
    cases e
    simp [List.lookup]
  | (g, x) :: ws, i + 1, v, h, hn => by
    rw [List.take_succ_cons, List.map_cons, List.mem_cons, not_or] at hn
    have hb : (f == g) = false := beq_eq_false_iff_ne.mpr hn.1
    show (match f == g with | true => some x | false => List.lookup f ws) = some v
    rw [hb]
    exact lookup_at (i := i) h hn.2
theorem lookup_no {f : Str} : ∀ {ws : List (Str × V)}, f ∉ ws.map (·.1) → ws.lookup f = none
  | [], _ => rfl
  | (g, x) :: ws, hn => by
    rw [List.map_cons, List.mem_cons, not_or] at hn
    have hb : (f == g) = false := beq_eq_false_iff_ne.mpr hn.1
    show (match f == g with | true => some x | false => List.lookup f ws) = none
    rw [hb]
    exact lookup_no hn.2
theorem putF_at {f : Str} {y : V} : ∀ {ws : List (Str × V)} {i : Nat} {v : V}, ws[i]? = some (f, v) → f ∉ (ws.take i).map (·.1) → putF f y ws = ws.set i (f, y)
  | [], _, _, h, _ => by simp at h
  | (g, x) :: ws, 0, v, h, _ => by
    have e := Option.some.inj h
    cases e
    show (if f = f then (f, y) :: ws else _) = _
    rw [if_pos rfl]
    rfl
  | (g, x) :: ws, i + 1, v, h, hn => by
    rw [List.take_succ_cons, List.map_cons, List.mem_cons, not_or] at hn
    show (if g = f then (g, y) :: ws else (g, x) :: putF f y ws) = _
    rw [if_neg (fun e => hn.1 e.symm), putF_at (i := i) h hn.2]
    rfl
theorem putF_new {f : Str} {y : V} : ∀ {ws : List (Str × V)}, f ∉ ws.map (·.1) → putF f y ws = ws ++ [(f, y)]
  | [], _ => rfl
  | (g, x) :: ws, hn => by
    rw [List.map_cons, List.mem_cons, not_or] at hn
    show (if g = f then (g, y) :: ws else (g, x) :: putF f y ws) = _
    rw [if_neg (fun e => hn.1 e.symm), putF_new hn.2]
    rfl
/-- the heap's fields against the told ones -/
theorem fs_of : ∀ {names : List Str} {sds : List SD} {ws : List (Str × V)}, FsOk K B (names.zip sds) ws → sds.length ≤ names.length → ∃ vs, SdAll K B sds vs ∧ ws = names.zip vs ∧ vs.length = sds.length
  | _, [], [], _, _ => ⟨[], True.intro, by simp, rfl⟩
  | [], _ :: _, _, _, hl => by simp at hl
  | n :: names, s :: sds, w :: ws, h, hl => by
    obtain ⟨vs, h1, h2, h3⟩ := fs_of (names := names) (sds := sds) (ws := ws) h.2 (by simpa using hl)
    refine ⟨w.2 :: vs, ⟨h.1.2, h1⟩, ?_, by rw [List.length_cons, List.length_cons, h3]⟩
    have e : n = w.1 := h.1.1
    rw [List.zip_cons_cons, ← h2, e]
  | n :: names, s :: sds, [], h, _ => h.elim
  | [], [], _ :: _, h, _ => h.elim
  | _ :: _, [], _ :: _, h, _ => h.elim
theorem of_fs : ∀ {names : List Str} {sds : List SD} {vs : List V}, SdAll K B sds vs → FsOk K B (names.zip sds) (names.zip vs)
  | [], _, _, _ => by simp [FsOk]
  | _ :: _, [], [], _ => True.intro
  | n :: names, s :: sds, v :: vs, h => ⟨⟨rfl, h.1⟩, of_fs h.2⟩
  | _ :: _, [], _ :: _, h => h.elim
  | _ :: _, _ :: _, [], h => h.elim
theorem sda_at : ∀ {sds : List SD} {vs : List V} {i : Nat} {s : SD}, SdAll K B sds vs → sds[i]? = some s → ∃ v, vs[i]? = some v ∧ SdOk K B s v
  | _ :: _, _ :: _, 0, _, h, e => by
    cases Option.some.inj e
    exact ⟨_, rfl, h.1⟩
  | _ :: sds, _ :: vs, i + 1, s, h, e => sda_at (sds := sds) (vs := vs) (i := i) h.2 e
  | [], [], _, _, _, e => by simp at e
  | [], _ :: _, _, _, h, _ => h.elim
  | _ :: _, [], _, _, h, _ => h.elim
theorem sda_set : ∀ {sds : List SD} {vs : List V} {i : Nat} {s : SD} {v : V}, SdAll K B sds vs → SdOk K B s v → SdAll K B (sds.set i s) (vs.set i v)
  | _ :: _, _ :: _, 0, _, _, h, d => ⟨d, h.2⟩
  | _ :: sds, _ :: vs, i + 1, s, v, h, d => ⟨h.1, sda_set (sds := sds) (vs := vs) (i := i) h.2 d⟩
  | [], [], _, _, _, h, _ => True.intro
  | [], _ :: _, _, _, _, h, _ => h.elim
  | _ :: _, [], _, _, _, h, _ => h.elim
theorem sda_snoc {s : SD} {v : V} : ∀ {sds : List SD} {vs : List V}, SdAll K B sds vs → SdOk K B s v → SdAll K B (sds ++ [s]) (vs ++ [v])
  | [], [], _, d => ⟨d, True.intro⟩
  | _ :: _, _ :: _, h, d => ⟨h.1, sda_snoc h.2 d⟩
  | [], _ :: _, h, _ => h.elim
  | _ :: _, [], h, _ => h.elim
theorem SOk.ob {m : M} {j : Nat} {p C dx : Addr} {names : List Str} {sds : List SD} (s : SOk K B m H) (hm : m[j]? = some (p, obj C dx names sds)) (hl : sds.length ≤ names.length) : ∃ vs, H p = some (.ins C dx (names.zip vs)) ∧ SdAll K B sds vs ∧ vs.length = sds.length := by
  obtain ⟨o, h, c⟩ := s.at hm
  unfold obj at c
  cases o with
  | ins C' dx' ws =>
    obtain ⟨rfl, rfl, c⟩ := c
    obtain ⟨vs, h1, rfl, h3⟩ := fs_of c hl
    exact ⟨vs, h, h1, h3⟩
  | _ => exact c.elim
theorem zip_at {names : List Str} {vs : List V} {i : Nat} {f : Str} {v : V} (h : PutAt f names i) (hv : vs[i]? = some v) : (names.zip vs)[i]? = some (f, v) ∧ f ∉ ((names.zip vs).take i).map (·.1) := by
  refine ⟨by rw [List.getElem?_zip_eq_some]; exact ⟨h.1, hv⟩, fun z => h.2 ?_⟩
  obtain ⟨q, hq, e⟩ := List.mem_map.mp z
  obtain ⟨k, hk⟩ := List.mem_iff_getElem?.mp hq
  rw [List.getElem?_take] at hk
  split at hk
  · rename_i hlt
    obtain ⟨h1, _⟩ := List.getElem?_zip_eq_some.mp hk
    refine List.mem_iff_getElem?.mpr ⟨k, ?_⟩
    rw [List.getElem?_take, if_pos hlt, h1, e]
  · cases hk
theorem zip_keys {names : List Str} {vs : List V} {f : Str} (h : f ∉ names) : f ∉ (names.zip vs).map (·.1) := fun z => h (by
  obtain ⟨q, hq, e⟩ := List.mem_map.mp z
  rw [← e]
  exact (List.of_mem_zip hq).1)
variable {F : Fx} {D : Ends} {ds : List SD} {m m1 m2 m' pre post mc mc' : M} {ta te : TE} {t : TA} {tz : TS} {sd sd' : SD} {rs : List SD} {c : SD} {G : Pf} {E : XK} {p C dx : Addr} {names : List Str} {sds : List SD} {f : Str}
/-- o.f -/
theorem ev_fld (j i : Nat) (ho : Ev K ta ds m (.rf p) m1) (hj : m1[j]? = some (p, obj C dx names sds)) (hi : sds[i]? = some sd) (hp : PutAt f names i) (hl : sds.length ≤ names.length) (c : Cls K C) (n : NoAttr K C f) : Ev K (tFld K ta f) ds m sd m1 := fun B H σ s st Q q =>
  ho B H σ s st _ fun x B1 H1 t1 s1 d1 => by
    have e : x = .ref p := d1
    subst e
    obtain ⟨vs, h1, h2, _⟩ := s1.ob hj hl
    obtain ⟨v, h3, h4⟩ := sda_at h2 hi
    obtain ⟨g1, g2⟩ := zip_at hp h3
    exact ⟨p, C, dx, _, v, rfl, h1, c, n, lookup_at g1 g2, q v B1 H1 t1 s1 h4⟩
theorem put_obj {v : V} {m : M} (s : SOk K B m H) {j i : Nat} {old : SD} (hj : m[j]? = some (p, obj C dx names sds)) (hi : sds[i]? = some old) (hp : PutAt f names i) (hl : sds.length ≤ names.length) (d : SdOk K B sd v) :
    ∃ vs, H p = some (.ins C dx (names.zip vs)) ∧ (names.zip vs).length < 1000 + names.length ∧ CdOk K B (obj C dx names (sds.set i sd)) (.ins C dx (putF f v (names.zip vs))) := by
  obtain ⟨vs, h1, h2, h3⟩ := s.ob hj hl
  obtain ⟨w, h4, _⟩ := sda_at h2 hi
  obtain ⟨g1, g2⟩ := zip_at hp h4
  refine ⟨vs, h1, by rw [List.length_zip]; omega, rfl, rfl, ?_⟩
  rw [putF_at g1 g2]
  have e : (names.zip vs).set i (f, v) = names.zip (vs.set i v) := by
    refine List.ext_getElem? fun k => ?_
    by_cases ek : i = k
    · subst ek
      have hlt : i < (names.zip vs).length := (List.getElem?_eq_some_iff.mp g1).1
      have hlt2 : i < vs.length := (List.getElem?_eq_some_iff.mp h4).1
      rw [List.getElem?_set_self hlt]
      exact (List.getElem?_zip_eq_some.mpr ⟨hp.1, by rw [List.getElem?_set_self hlt2]⟩).symm
    · rw [List.getElem?_set_ne ek]
      cases hn : names[k]? with
      | none =>
        have : (names.zip vs)[k]? = none := List.getElem?_eq_none (by rw [List.length_zip]; have := List.getElem?_eq_none_iff.mp hn; omega)
        rw [this]
        exact (List.getElem?_eq_none (by rw [List.length_zip]; have := List.getElem?_eq_none_iff.mp hn; omega)).symm
      | some nm =>
        cases hv : vs[k]? with
        | none =>
          have : (names.zip vs)[k]? = none := List.getElem?_eq_none (by rw [List.length_zip]; have := List.getElem?_eq_none_iff.mp hv; omega)
          rw [this]
          exact (List.getElem?_eq_none (by rw [List.length_zip, List.length_set]; have := List.getElem?_eq_none_iff.mp hv; omega)).symm
        | some u =>
          rw [(List.getElem?_zip_eq_some (z := (nm, u))).mpr ⟨hn, hv⟩]
          exact ((List.getElem?_zip_eq_some (z := (nm, u))).mpr ⟨hn, by rw [List.getElem?_set_ne ek]; exact hv⟩).symm
  rw [e]
  exact of_fs (sda_set h2 d)
/-- o.f = e -/
theorem wp_fld (j i : Nat) {old : SD} (hv : Ev F.K te ds m sd m1) (ho : Ev F.K ta ds m1 (.rf p) m2) (hj : m2[j]? = some (p, obj C dx names sds)) (hi : sds[i]? = some old) (hp : PutAt f names i) (hl : sds.length ≤ names.length) (hn : names.length < 500) (c : Cls F.K C) (n : NoAttr F.K C f)
    (k : Wp F tz D ds (m2.set j (p, obj C dx names (sds.set i sd)))) : Wp F (tSeq (sFld F.K ta te f) tz) D ds m := fun σ H ⟨B, st, s, t, lo⟩ =>
  hv B H σ s st _ fun v B1 H1 t1 s1 d1 => ho B1 H1 σ s1 (st_mono t1.ex st) _ fun x B2 H2 t2 s2 d2 => by
    have e : x = .ref p := d2
    subst e
    obtain ⟨vs, h1, h2, h3⟩ := put_obj s2 hj hi hp hl (sd_mono t2.ex d1)
    refine ⟨p, C, dx, _, rfl, h1, c, n, by rw [List.length_zip]; omega, ?_⟩
    exact k σ _ ⟨B2, st_mono (t1.ex.trans t2.ex) st, s2.put hj h3, ((t.trans t1).trans t2).trans (Tr.put s2 hj h3), lo.trans (t1.ex.trans t2.ex)⟩
theorem new_obj {v : V} {m : M} (s : SOk K B m H) {j : Nat} (hj : m[j]? = some (p, obj C dx names sds)) (hp : PutAt f names sds.length) (d : SdOk K B sd v) :
    ∃ vs, H p = some (.ins C dx (names.zip vs)) ∧ CdOk K B (obj C dx names (sds ++ [sd])) (.ins C dx (putF f v (names.zip vs))) := by
  have hlt : sds.length < names.length := (List.getElem?_eq_some_iff.mp hp.1).1
  obtain ⟨vs, h1, h2, h3⟩ := s.ob hj (by omega)
  refine ⟨vs, h1, rfl, rfl, ?_⟩
  have e : names.zip (vs ++ [v]) = names.zip vs ++ [(f, v)] := by
    have e0 : names = names.take sds.length ++ f :: names.drop (sds.length + 1) := by
      have e1 : names[sds.length] = f := by
        have := hp.1
        rw [List.getElem?_eq_getElem hlt] at this
        exact Option.some.inj this
      rw [← e1, ← List.drop_eq_getElem_cons hlt, List.take_append_drop]
    generalize hA : names.take sds.length = A at e0
    have hAl : A.length = vs.length := by rw [← hA, List.length_take, h3]; omega
    rw [e0, List.zip_append hAl]
    have e2 : (A ++ f :: names.drop (sds.length + 1)).zip vs = A.zip vs := by
      have : vs = vs ++ [] := (List.append_nil vs).symm
      rw [this, List.zip_append hAl, List.append_nil]
      simp
    rw [e2, List.zip_cons_cons, List.zip_nil_right]
  rw [putF_new (fun z => hp.2 ?_), ← e]
  · exact of_fs (sda_snoc h2 d)
  · obtain ⟨q, hq, e2⟩ := List.mem_map.mp z
    obtain ⟨k, hk⟩ := List.mem_iff_getElem?.mp hq
    obtain ⟨g1, g2⟩ := List.getElem?_zip_eq_some.mp hk
    have hkl : k < vs.length := (List.getElem?_eq_some_iff.mp g2).1
    refine List.mem_iff_getElem?.mpr ⟨k, ?_⟩
    rw [List.getElem?_take, if_pos (by omega), g1, e2]
/-- o.f = e, a field's first store -/
theorem wp_fld0 (j : Nat) (hv : Ev F.K te ds m sd m1) (ho : Ev F.K ta ds m1 (.rf p) m2) (hj : m2[j]? = some (p, obj C dx names sds)) (hp : PutAt f names sds.length) (hn : names.length < 500) (c : Cls F.K C) (n : NoAttr F.K C f)
    (k : Wp F tz D ds (m2.set j (p, obj C dx names (sds ++ [sd])))) : Wp F (tSeq (sFld F.K ta te f) tz) D ds m := fun σ H ⟨B, st, s, t, lo⟩ =>
  hv B H σ s st _ fun v B1 H1 t1 s1 d1 => ho B1 H1 σ s1 (st_mono t1.ex st) _ fun x B2 H2 t2 s2 d2 => by
    have e : x = .ref p := d2
    subst e
    obtain ⟨vs, h1, h3⟩ := new_obj s2 hj hp (sd_mono t2.ex d1)
    refine ⟨p, C, dx, _, rfl, h1, c, n, by rw [List.length_zip]; omega, ?_⟩
    exact k σ _ ⟨B2, st_mono (t1.ex.trans t2.ex) st, s2.put hj h3, ((t.trans t1).trans t2).trans (Tr.put s2 hj h3), lo.trans (t1.ex.trans t2.ex)⟩
/-- o.f = e, a field's first store, a new cell -/
theorem wp_fld0N (j : Nat) {cd : CD} (hv : EvN F.K te ds m cd m1) (ho : ∀ m, Ev F.K ta ds m (.rf p) m) (hj : m1[j]? = some (p, obj C dx names sds)) (hp : PutAt f names sds.length) (hn : names.length < 500) (c : Cls F.K C) (n : NoAttr F.K C f) (hm : keys m1 = keys m)
    (k : ∀ l, l ∉ F.k0 → Wp F tz D ds ((m1 ++ [(l, cd)]).set j (p, obj C dx names (sds ++ [.rf l])))) : Wp F (tSeq (sFld F.K ta te f) tz) D ds m := fun σ H ⟨B, st, s, t, lo⟩ =>
  hv B H σ s st _ fun l B1 H1 t1 s1 => by
    have hnew : H l = none := by
      have h1 : l ∈ keys (m1 ++ [(l, cd)]) := by rw [keys_app]; exact List.mem_append_right _ (List.mem_singleton.mpr rfl)
      refine (t1.kys l h1).resolve_left fun z => ?_
      have nd := s1.nd
      rw [keys_app] at nd
      exact (List.nodup_append.mp nd).2.2 l (by rw [hm]; exact z) l (List.mem_singleton.mpr rfl) rfl
    refine ho _ B1 H1 σ s1 (st_mono t1.ex st) _ fun x B2 H2 t2 s2 d2 => ?_
    have e : x = .ref p := d2
    subst e
    have hlt : j < m1.length := (List.getElem?_eq_some_iff.mp hj).1
    have hj2 : (m1 ++ [(l, cd)])[j]? = some (p, obj C dx names sds) := by
      rw [List.getElem?_append_left hlt]
      exact hj
    obtain ⟨vs, h1, h3⟩ := new_obj (sd := .rf l) (v := .ref l) s2 hj2 hp rfl
    refine ⟨p, C, dx, _, rfl, h1, c, n, by rw [List.length_zip]; omega, ?_⟩
    exact k l (fun z => absurd hnew (t.grow l (F.hk l z))) σ _ ⟨B2, st_mono (t1.ex.trans t2.ex) st, s2.put hj2 h3, ((t.trans t1).trans t2).trans (Tr.put s2 hj2 h3), lo.trans (t1.ex.trans t2.ex)⟩
/-! ### calls with a block of cells -/
theorem blk_perm (pre mc post : M) : (mc ++ (pre ++ post)).Perm (pre ++ mc ++ post) := by
  rw [← List.append_assoc]
  exact List.Perm.append_right post List.perm_append_comm
theorem blk_call {vs : List V} (s1 : SOk K B (pre ++ mc ++ post) H) (hF : ∃ R, G rs mc R ∧ ∀ r m2, R r m2 → r = c ∧ m2 = mc') (d1 : SdAll K B rs vs) (Q : VK) (q : ∀ v B2 H2, Tr B H (keys (pre ++ mc ++ post)) B2 H2 (keys (pre ++ mc' ++ post)) → SOk K B2 (pre ++ mc' ++ post) H2 → SdOk K B2 c v → Q v H2) : spOf K G vs H Q E := by
  obtain ⟨R, hR, hq⟩ := hF
  have s1' : SOk K B (mc ++ (pre ++ post)) H := s1.perm (blk_perm pre mc post)
  refine ⟨B, rs, mc, R, hR, s1'.sub (List.sublist_append_left _ _), d1, fun v B2 H2 r m2 hr t2 s2 d2 => ?_⟩
  obtain ⟨rfl, rfl⟩ := hq r m2 hr
  obtain ⟨t3, s3⟩ := fr_ok s1' t2 s2
  have p1 : ∀ a, a ∈ keys (mc ++ (pre ++ post)) ↔ a ∈ keys (pre ++ mc ++ post) := fun a => ((blk_perm pre mc post).map Prod.fst).mem_iff
  have p2 : ∀ a, a ∈ keys (m2 ++ (pre ++ post)) ↔ a ∈ keys (pre ++ m2 ++ post) := fun a => ((blk_perm pre m2 post).map Prod.fst).mem_iff
  exact q v B2 H2 (t3.perm p1 p2) (s3.perm (blk_perm pre m2 post).symm) d2
/-- f(..) -/
theorem ev_callB (h : EvA K t ds m rs (pre ++ mc ++ post)) (hF : ∃ R, G rs mc R ∧ ∀ r m2, R r m2 → r = c ∧ m2 = mc') : Ev K (tCall (spOf K G) [] E t) ds m c (pre ++ mc' ++ post) := fun B H σ s st Q q =>
  h B H σ s st _ fun vs B1 H1 t1 s1 d1 => by
    rw [List.append_nil]
    exact blk_call s1 hF d1 Q fun v B2 H2 t2 s2 d2 => q v B2 H2 (t1.trans t2) s2 d2
/-- o.m(..) -/
theorem ev_meth (j : Nat) {mt : Str} (ho : Ev K ta ds m (.rf p) m1) (hj : m1[j]? = some (p, obj C dx names sds)) (hl : sds.length ≤ names.length) (hm : mt ∉ names) (h : EvA K t ds m1 rs (pre ++ mc ++ post)) (hF : ∃ R, G (.rf p :: rs) mc R ∧ ∀ r m2, R r m2 → r = c ∧ m2 = mc') :
    Ev K (tMeth C mt (spOf K G) [] E ta t) ds m c (pre ++ mc' ++ post) := fun B H σ s st Q q =>
  ho B H σ s st _ fun x B1 H1 t1 s1 d1 => by
    have e : x = .ref p := d1
    subst e
    obtain ⟨vs, h1, _, _⟩ := s1.ob hj hl
    refine ⟨p, dx, _, rfl, h1, lookup_no (zip_keys hm), h B1 H1 σ s1 (st_mono t1.ex st) _ fun us B2 H2 t2 s2 d2 => ?_⟩
    rw [List.append_nil]
    exact blk_call (vs := .ref p :: us) s2 hF (rs := .rf p :: rs) ⟨rfl, d2⟩ Q fun v B3 H3 t3 s3 d3 => q v B3 H3 ((t1.trans t2).trans t3) s3 d3
/-! ### calls with any cells -/
theorem range_pick (m : M) : (List.range m.length).filterMap (fun i => m[i]?) = m := by
  induction m with
  | nil => rfl
  | cons a m ih =>
    rw [List.length_cons, List.range_succ_eq_map, List.filterMap_cons]
    show a :: ((List.range m.length).map Nat.succ).filterMap (fun i => (a :: m)[i]?) = a :: m
    rw [List.filterMap_map]
    exact congrArg (a :: ·) ih
theorem perm_ix {m m' : M} {n : Nat} (ix : List Nat) (hn : m.length = n) (h : ix.isPerm (List.range n) = true) (e : ix.filterMap (fun i => m[i]?) = m') : m'.Perm m := by
  subst e
  have hp := (List.isPerm_iff.mp h).filterMap (fun i => m[i]?)
  rw [← hn, range_pick] at hp
  exact hp
theorem any_call {vs : List V} {fr : M} (s1 : SOk K B m1 H) (hp : (mc ++ fr).Perm m1) (hp' : (mc' ++ fr).Perm m2) (hF : ∃ R, G rs mc R ∧ ∀ r m2, R r m2 → r = c ∧ m2 = mc') (d1 : SdAll K B rs vs) (Q : VK) (q : ∀ v B2 H2, Tr B H (keys m1) B2 H2 (keys m2) → SOk K B2 m2 H2 → SdOk K B2 c v → Q v H2) : spOf K G vs H Q E := by
  obtain ⟨R, hR, hq⟩ := hF
  have s1' : SOk K B (mc ++ fr) H := s1.perm hp
  refine ⟨B, rs, mc, R, hR, s1'.sub (List.sublist_append_left _ _), d1, fun v B2 H2 r m3 hr t2 s2 d2 => ?_⟩
  obtain ⟨rfl, rfl⟩ := hq r m3 hr
  obtain ⟨t3, s3⟩ := fr_ok s1' t2 s2
  exact q v B2 H2 (t3.perm (fun a => (hp.map Prod.fst).mem_iff) (fun a => (hp'.map Prod.fst).mem_iff)) (s3.perm hp'.symm) d2
/-- f(..) -/
theorem ev_callP {fr : M} (h : EvA K t ds m rs m1) (hp : (mc ++ fr).Perm m1) (hp' : (mc' ++ fr).Perm m2) (hF : ∃ R, G rs mc R ∧ ∀ r m2, R r m2 → r = c ∧ m2 = mc') : Ev K (tCall (spOf K G) [] E t) ds m c m2 := fun B H σ s st Q q =>
  h B H σ s st _ fun vs B1 H1 t1 s1 d1 => by
    rw [List.append_nil]
    exact any_call s1 hp hp' hF d1 Q fun v B2 H2 t2 s2 d2 => q v B2 H2 (t1.trans t2) s2 d2
/-- o.m(..) -/
theorem ev_methP (j : Nat) {mt : Str} {fr m3 : M} (ho : Ev K ta ds m (.rf p) m1) (hj : m1[j]? = some (p, obj C dx names sds)) (hl : sds.length ≤ names.length) (hm : mt ∉ names) (h : EvA K t ds m1 rs m2) (hp : (mc ++ fr).Perm m2) (hp' : (mc' ++ fr).Perm m3) (hF : ∃ R, G (.rf p :: rs) mc R ∧ ∀ r m2, R r m2 → r = c ∧ m2 = mc') :
    Ev K (tMeth C mt (spOf K G) [] E ta t) ds m c m3 := fun B H σ s st Q q =>
  ho B H σ s st _ fun x B1 H1 t1 s1 d1 => by
    have e : x = .ref p := d1
    subst e
    obtain ⟨vs, h1, _, _⟩ := s1.ob hj hl
    refine ⟨p, dx, _, rfl, h1, lookup_no (zip_keys hm), h B1 H1 σ s1 (st_mono t1.ex st) _ fun us B2 H2 t2 s2 d2 => ?_⟩
    rw [List.append_nil]
    exact any_call (vs := .ref p :: us) s2 hp hp' hF (rs := .rf p :: rs) ⟨rfl, d2⟩ Q fun v B3 H3 t3 s3 d3 => q v B3 H3 ((t1.trans t2).trans t3) s3 d3
/-! ### new cells in a group -/
/-- an expression that yields what r says of a, with new cells mN -/
def EvG {A : Type} (K : PySem.W.Frag) (te : TE) (ds : List SD) (m : M) (r : A → SD) (Good : A → M → Prop) (m1 : M) : Prop :=
  ∀ B H σ, SOk K B m H → StOk K B ds σ → ∀ Q : VK, (∀ v a mN B2 H2, Good a mN → Tr B H (keys m) B2 H2 (keys (m1 ++ mN)) → SOk K B2 (m1 ++ mN) H2 → SdOk K B2 (r a) v → Q v H2) → te σ H Q
theorem new_k0 {mN : M} {B0 H0 B1 H1 B2 H2 : Hp} {k0 : List Addr} (hk : ∀ a ∈ k0, H0 a ≠ none) (t0 : Tr B0 H0 k0 B1 H1 (keys m)) (t : Tr B1 H1 (keys m) B2 H2 (keys (m1 ++ mN))) (s : SOk K B2 (m1 ++ mN) H2) (hm : keys m1 = keys m) : ∀ a ∈ keys mN, a ∉ k0 := fun a ha z => by
  have nd : (List.map (fun p : Addr × CD => p.1) (m1 ++ mN)).Nodup := s.nd
  rw [List.map_append] at nd
  have h6 : a ∉ keys m1 := fun z2 => (List.nodup_append.mp nd).2.2 a z2 a ha rfl
  have h5 : a ∈ keys (m1 ++ mN) := by
    show a ∈ List.map _ _
    rw [List.map_append]
    exact List.mem_append_right _ ha
  rcases t.kys a h5 with h7 | h7
  · exact h6 (by rw [hm]; exact h7)
  · exact absurd h7 (t0.grow a (hk a z))
theorem eg_new {cd : CD} (h : EvN K te ds m cd m1) : EvG K te ds m SD.rf (fun p mN => mN = [(p, cd)]) m1 := fun B H σ s st Q q => h B H σ s st Q fun p B2 H2 t2 s2 => q (.ref p) p _ B2 H2 rfl t2 s2 rfl
theorem eg_make {Good : Addr → Addr → M → Prop} (h : EvA K t ds m rs m1) (hF : ∀ p dx, ∃ R, G (.rf p :: rs) [(p, obj C dx names [])] R ∧ ∀ r m2, R r m2 → r = .da .none ∧ Good p dx m2) :
    EvG K (tMake C (spOf K G) [] E t) ds m SD.rf (fun p mN => ∃ dx, Good p dx mN) m1 := fun B H σ s st Q q =>
  h B H σ s st _ fun vs B1 H1 t1 s1 d1 => by
    intro x dx hx hdx hne
    obtain ⟨R, hR, hq⟩ := hF x dx
    rw [List.append_nil]
    have hxB : B1 x = none := fresh_b s1 hx
    have tA : Tr B1 H1 (keys m1) B1 (upd H1 dx (.own x)) (keys m1) := ⟨Ex.refl _, fun _ _ _ z => z, fun a h1 hn xs => by
      by_cases e : a = dx
      · subst e; exact absurd hdx h1
      · rw [upd_ne e]; exact hn xs, fun a o _ z => by rw [upd_ne (ne_of_none z hdx)]; exact z, fun _ z => .inl z, fun a z => by
      by_cases e : a = dx
      · rw [e, upd_same]; exact fun q => nomatch q
      · rw [upd_ne e]; exact z⟩
    have sA : SOk K B1 m1 (upd H1 dx (.own x)) := ⟨fun a o z => by rw [upd_ne (ne_of_none (s1.ext a o z) hdx)]; exact s1.ext a o z, s1.nd, s1.out, fun q hq => by
      obtain ⟨o, g1, g2⟩ := s1.cel q hq
      exact ⟨o, by rw [upd_ne (ne_of_none g1 hdx)]; exact g1, g2⟩⟩
    have hx2 : (upd H1 dx (.own x)) x = none := by rw [upd_ne (Ne.symm hne)]; exact hx
    have cdx : CdOk K B1 (obj C dx names []) (.ins C dx []) := ⟨rfl, rfl, by rw [List.zip_nil_right]; exact True.intro⟩
    have tB := Tr.cell (c := obj C dx names []) (o := .ins C dx []) sA hx2
    have sB := sA.cell (c := obj C dx names []) hx2 cdx
    have sC : SOk K B1 ([(x, obj C dx names [])] ++ m1) (upd (upd H1 dx (.own x)) x (.ins C dx [])) := sB.perm List.perm_append_comm
    refine ⟨B1, .rf x :: rs, [(x, obj C dx names [])], R, hR, sC.sub (List.sublist_append_left _ _), ⟨rfl, d1⟩, fun v B2 H2 r m2 hr t2 s2 d2 => ?_⟩
    obtain ⟨rfl, hg⟩ := hq r m2 hr
    obtain ⟨t3, s3⟩ := fr_ok sC t2 s2
    have p1 : ∀ a, a ∈ keys ([(x, obj C dx names [])] ++ m1) ↔ a ∈ keys (m1 ++ [(x, obj C dx names [])]) := fun a => (List.perm_append_comm.map Prod.fst).mem_iff
    have p2 : ∀ a, a ∈ keys (m2 ++ m1) ↔ a ∈ keys (m1 ++ m2) := fun a => (List.perm_append_comm.map Prod.fst).mem_iff
    have t4 := t3.perm p1 p2
    have s4 : SOk K B2 (m1 ++ m2) H2 := s3.perm List.perm_append_comm
    have ev : v = .non := by
      have h' : Dq B2 v .none := d2
      cases h'
      rfl
    exact ⟨ev, q (.ref x) x m2 B2 H2 ⟨dx, hg⟩ (((t1.trans tA).trans tB).trans t4) s4 rfl⟩
/-- a def that gives new cells -/
theorem eg_call {A : Type} {r : A → SD} {Good : A → M → Prop} {fr : M} (h : EvA K t ds m rs m1) (hp : (mc ++ fr).Perm m1) (hp' : (mc' ++ fr).Perm m2) (hF : ∃ R, G rs mc R ∧ ∀ c mz, R c mz → ∃ a mN, c = r a ∧ mz = mc' ++ mN ∧ Good a mN) :
    EvG K (tCall (spOf K G) [] E t) ds m r Good m2 := fun B H σ s st Q q =>
  h B H σ s st _ fun vs B1 H1 t1 s1 d1 => by
    rw [List.append_nil]
    obtain ⟨R, hR, hq⟩ := hF
    have s1' : SOk K B1 (mc ++ fr) H1 := s1.perm hp
    refine ⟨B1, rs, mc, R, hR, s1'.sub (List.sublist_append_left _ _), d1, fun v B2 H2 c mz hr t2 s2 d2 => ?_⟩
    obtain ⟨a, mN, rfl, rfl, hg⟩ := hq c mz hr
    obtain ⟨t3, s3⟩ := fr_ok s1' t2 s2
    have pz : (mc' ++ mN ++ fr).Perm (m2 ++ mN) := by
      have e1 : (mc' ++ mN ++ fr).Perm (mc' ++ fr ++ mN) := by
        rw [List.append_assoc, List.append_assoc]
        exact List.Perm.append_left mc' List.perm_append_comm
      exact e1.trans (hp'.append_right mN)
    exact q v a mN B2 H2 hg (t1.trans (t3.perm (fun a => (hp.map Prod.fst).mem_iff) (fun a => (pz.map Prod.fst).mem_iff))) (s3.perm pz.symm) d2
theorem wp_asgG {A : Type} {r : A → SD} {Good : A → M → Prop} {i : Nat} (h : EvG F.K te ds m r Good m1) (k : ∀ a mN, Good a mN → (∀ x ∈ keys mN, x ∉ F.k0) → Wp F tz D (ds.set i (r a)) (m1 ++ mN)) (hm : keys m1 = keys m) : Wp F (tSeq (tAsg te (gName i)) tz) D ds m := fun σ H ⟨B, st, s, t, lo⟩ =>
  h B H σ s st _ fun v a mN B2 H2 hg t2 s2 d2 => k a mN hg (new_k0 F.hk t t2 s2 hm) _ H2 ⟨B2, st_set i (st_mono t2.ex st) (sl_of d2), s2, t.trans t2, lo.trans t2.ex⟩
/-- x = C(..) -/
theorem wp_make {i : Nat} {Good : Addr → Addr → M → Prop} (h : EvA F.K t ds m rs m1) (hF : ∀ p dx, ∃ R, G (.rf p :: rs) [(p, obj C dx names [])] R ∧ ∀ r m2, R r m2 → r = .da .none ∧ Good p dx m2)
    (k : ∀ p dx m2, Good p dx m2 → (∀ a ∈ keys m2, a ∉ F.k0) → Wp F tz D (ds.set i (.rf p)) (m1 ++ m2)) (hm : keys m1 = keys m) : Wp F (tSeq (tAsg (tMake C (spOf F.K G) [] E t) (gName i)) tz) D ds m :=
  wp_asgG (eg_make h hF) (fun p mN hg hn => hg.elim fun dx hg => k p dx mN hg hn) hm
/-- x, y = e, f, both new -/
theorem wp_parG {A A2 : Type} {r : A → SD} {r2 : A2 → SD} {Good : A → M → Prop} {Good2 : A2 → M → Prop} {i j : Nat} {tb : TE} (h : EvG F.K te ds m r Good m1) (h2 : ∀ a mN, Good a mN → EvG F.K tb ds (m1 ++ mN) r2 Good2 (m1 ++ mN))
    (k : ∀ a mN b mZ, Good a mN → Good2 b mZ → (∀ x ∈ keys (mN ++ mZ), x ∉ F.k0) → Wp F tz D ((ds.set i (r a)).set j (r2 b)) (m1 ++ mN ++ mZ)) (hm : keys m1 = keys m) : Wp F (tSeq (tPar i j (tCons te (tCons tb tNil))) tz) D ds m := fun σ H ⟨B, st, s, t, lo⟩ =>
  h B H σ s st _ fun v a mN B2 H2 hg t2 s2 d2 => h2 a mN hg B2 H2 σ s2 (st_mono t2.ex st) _ fun u b mZ B3 H3 hg2 t3 s3 d3 => by
    refine ⟨v, u, rfl, ?_⟩
    have s3' : SOk F.K B3 (m1 ++ (mN ++ mZ)) H3 := by rw [← List.append_assoc]; exact s3
    have t3' : Tr B H (keys m) B3 H3 (keys (m1 ++ (mN ++ mZ))) := by rw [← List.append_assoc]; exact t2.trans t3
    exact k a mN b mZ hg hg2 (new_k0 F.hk t t3' s3' hm) _ H3 ⟨B3, st_set j (st_set i (st_mono (t2.ex.trans t3.ex) st) (sl_of (sd_mono t3.ex d2))) (sl_of d3), s3, t.trans (t2.trans t3), lo.trans (t2.ex.trans t3.ex)⟩
/-! ### ends -/
theorem wp_fall {R : SD → M → Prop} (_ : Fin F D R) (hnx : ∀ σ B H m2, R (.da .none) m2 → Tr F.B0 F.H0 F.k0 B H (keys m2) → SOk F.K B m2 H → D.nx σ H) (hR : R (.da .none) m2) (hs : m2.Sublist m) : Wp F tNext D ds m := fun σ H ⟨B, st, s, t, lo⟩ =>
  hnx σ B H m2 hR (t.sub fun a z => (hs.map _).subset z) (s.sub hs)
theorem wp_retNS {R : SD → M → Prop} (hf : Fin F D R) (hR : R (.da .none) m2) (hs : m2.Sublist m) : Wp F (tSeq tRetN tz) D ds m := fun σ H ⟨B, st, s, t, lo⟩ =>
  hf .non B H _ m2 hR (t.sub fun a z => (hs.map _).subset z) (s.sub hs) .non
/-! ### code that is never reached -/
def tDead : TS := fun _ _ _ => False
theorem pss_dead {X : Cx} {ss : List Stmt} : PSs X ss tDead := ⟨fun _ _ _ _ _ _ h => h.elim⟩
/-- tuples of data and cells -/
theorem ev_tupP {es : List (PyData ⊕ Addr)} (h : EvA K t ds m (es.map fun e => match e with | .inl d => SD.da d | .inr l => SD.rf l) m') (hz : es.length ≤ 1000) : Ev K (tTup t) ds m (.tp es) m' := fun B H σ s st Q q => h B H σ s st _ fun vs B1 H1 t1 s1 d1 => by
  have key : ∀ {B : Hp} {es : List (PyData ⊕ Addr)} {vs : List V}, SdAll K B (es.map fun e => match e with | .inl d => SD.da d | .inr l => SD.rf l) vs → TpOk B es vs ∧ vs.length = es.length := by
    intro B es
    induction es with
    | nil =>
      intro vs h
      cases vs with
      | nil => exact ⟨True.intro, rfl⟩
      | cons v vs => exact h.elim
    | cons e es ih =>
      intro vs h
      cases vs with
      | nil => exact h.elim
      | cons v vs =>
        obtain ⟨h1, h2⟩ := ih h.2
        cases e with
        | inl d => exact ⟨⟨h.1, h1⟩, by rw [List.length_cons, List.length_cons, h2]⟩
        | inr l => exact ⟨⟨h.1, h1⟩, by rw [List.length_cons, List.length_cons, h2]⟩
  obtain ⟨k1, k2⟩ := key d1
  exact ⟨Nat.le_of_lt (small1000 (by omega)), fun p hp => q _ _ _ (t1.trans (Tr.data s1 hp)) (s1.data hp) ⟨p, vs, rfl, upd_same, tp_mono (Ex.new (fresh_b s1 hp)) k1⟩⟩
def sdOf : PyData ⊕ Addr → SD
  | .inl d => .da d
  | .inr l => .rf l
theorem tp_two {B : Hp} {a b : PyData ⊕ Addr} {vs : List V} (h : TpOk B [a, b] vs) : ∃ x y, vs = [x, y] ∧ SdOk K B (sdOf a) x ∧ SdOk K B (sdOf b) y := by
  cases vs with
  | nil => cases a <;> exact h.elim
  | cons x vs =>
    cases vs with
    | nil => cases a <;> cases b <;> exact h.2.elim
    | cons y vs =>
      cases vs with
      | nil => cases a <;> cases b <;> exact ⟨x, y, rfl, h.1, h.2.1⟩
      | cons z vs => cases a <;> cases b <;> exact h.2.2.elim
/-- x, y = e, e a tuple of data and cells, some of them new -/
theorem wp_unpG {A : Type} {ra rb : A → PyData ⊕ Addr} {Good : A → M → Prop} {i j : Nat} (h : EvG F.K te ds m (fun a => .tp [ra a, rb a]) Good m1) (k : ∀ a mN, Good a mN → (∀ x ∈ keys mN, x ∉ F.k0) → Wp F tz D ((ds.set i (sdOf (ra a))).set j (sdOf (rb a))) (m1 ++ mN)) (hm : keys m1 = keys m) :
    Wp F (tSeq (tAsg te (gTup F.K 2 (gCons (gName i) (gCons (gName j) gNil)))) tz) D ds m := fun σ H ⟨B, st, s, t, lo⟩ =>
  h B H σ s st _ fun v a mN B2 H2 hg t2 s2 d2 => by
    obtain ⟨p, vs, rfl, h1, h2⟩ := d2
    obtain ⟨x, y, rfl, dx, dy⟩ := tp_two (K := F.K) h2
    refine ⟨p, [x, y], rfl, SqT.of (s2.ext _ _ h1), rfl, x, [y], rfl, y, [], rfl, rfl, ?_⟩
    exact k a mN hg (new_k0 F.hk t t2 s2 hm) _ H2 ⟨B2, st_set j (st_set i (st_mono t2.ex st) (sl_of dx)) (sl_of dy), s2, t.trans t2, lo.trans t2.ex⟩
/-- x, y = e, e a tuple of data and cells -/
theorem wp_unpT {i j : Nat} {a b : PyData ⊕ Addr} (h : Ev F.K te ds m (.tp [a, b]) m1) (k : Wp F tz D ((ds.set i (sdOf a)).set j (sdOf b)) m1) : Wp F (tSeq (tAsg te (gTup F.K 2 (gCons (gName i) (gCons (gName j) gNil)))) tz) D ds m := fun σ H ⟨B, st, s, t, lo⟩ =>
  h B H σ s st _ fun v B2 H2 t2 s2 d2 => by
    obtain ⟨p, vs, rfl, h1, h2⟩ := d2
    obtain ⟨x, y, rfl, dx, dy⟩ := tp_two (K := F.K) h2
    refine ⟨p, [x, y], rfl, SqT.of (s2.ext _ _ h1), rfl, x, [y], rfl, y, [], rfl, rfl, ?_⟩
    exact k _ H2 ⟨B2, st_set j (st_set i (st_mono t2.ex st) (sl_of dx)) (sl_of dy), s2, t.trans t2, lo.trans t2.ex⟩
end
end FC
set_option maxHeartbeats 400000
/-! FD: texts, dicts that are walked, isinstance. -/
namespace FC
open PySem PySem.Spec PyProof.Rows L2 Evl
section
variable {K : PySem.W.Frag} {B H : Hp} {ds : List SD} {m m1 m2 m' : M} {α : Type} {f : α → PyData} {te td tl : TE} {r : SD} {l : Addr} {F : Fx} {D : Ends} {tz : TS}
/-! ### a dict that is walked: locked -/
theorem SOk.dk' {j : Nat} {kvs : List (Key × PyData)} (s : SOk K B m H) (hm : m[j]? = some (l, .dk kvs)) : ∃ ws, H l = some (.dK ws) ∧ KvOk B kvs ws := by
  obtain ⟨o, h, c⟩ := s.at hm
  cases o <;> first | exact ⟨_, h, c⟩ | exact c.elim
theorem SOk.lkd {j : Nat} {od : Obj} {ws : List (Key × V)} {kvs : List (Key × PyData)} (s : SOk K B m H) (hm : m[j]? = some (l, .lk od ws kvs)) : H l = some (.frz od (.dK ws)) ∧ KvOk B kvs ws := by
  obtain ⟨o, h, c⟩ := s.at hm
  cases o with
  | frz od' u =>
    obtain ⟨rfl, rfl, c⟩ := c
    exact ⟨h, c⟩
  | _ => exact c.elim
theorem set_back {j : Nat} {x y : Addr × CD} (h : m[j]? = some x) : (m.set j y).set j x = m := by
  rw [List.set_set]
  refine List.ext_getElem? fun i => ?_
  rw [List.getElem?_set]
  by_cases e : j = i
  · subst e
    have hl := (List.getElem?_eq_some_iff.mp h).1
    rw [if_pos rfl, if_pos hl, h]
  · rw [if_neg e]
theorem ev_lock (j : Nat) {kvs : List (Key × PyData)} (hj : m[j]? = some (l, .dk kvs)) (h : ∀ od ws, Ev K te ds (m.set j (l, .lk od ws kvs)) r (m'.set j (l, .lk od ws kvs))) (hj' : m'[j]? = some (l, .dk kvs)) : Ev K (tLockE te) ds m r m' := fun B H σ s st Q q => by
  obtain ⟨ws, h1, h2⟩ := s.dk' hj
  refine ⟨l, .dK ws, h1, True.intro, fun od => ?_⟩
  have cd : CdOk K B (.lk od ws kvs) (.frz od (.dK ws)) := ⟨rfl, rfl, h2⟩
  refine h od ws B _ σ (s.put hj cd) st _ fun v B2 H2 t2 s2 d2 => ?_
  have hl' := (List.getElem?_eq_some_iff.mp hj').1
  have hj2 : (m'.set j (l, CD.lk od ws kvs))[j]? = some (l, .lk od ws kvs) := List.getElem?_set_self hl'
  obtain ⟨g1, g2⟩ := s2.lkd hj2
  have cd2 : CdOk K B2 (.dk kvs) (.dK ws) := g2
  have s3 := s2.put hj2 cd2
  have t3 := Tr.put s2 hj2 cd2
  rw [set_back hj'] at s3 t3
  exact ⟨g1, q v B2 _ (((Tr.put s hj cd).trans t2).trans t3) s3 d2⟩
/-- x = e, a dict locked the while -/
theorem wp_lockA {i : Nat} (j : Nat) {kvs : List (Key × PyData)} (hj : m[j]? = some (l, .dk kvs)) (h : ∀ od ws, Ev F.K te ds (m.set j (l, .lk od ws kvs)) r (m'.set j (l, .lk od ws kvs))) (hj' : m'[j]? = some (l, .dk kvs)) (k : Wp F tz D (ds.set i r) m') : Wp F (tSeq (tLock (tAsg te (gName i))) tz) D ds m := fun σ H ⟨B, st, s, t, lo⟩ => by
  obtain ⟨ws, h1, h2⟩ := s.dk' hj
  refine ⟨l, .dK ws, h1, True.intro, fun od => ?_⟩
  have cd : CdOk F.K B (.lk od ws kvs) (.frz od (.dK ws)) := ⟨rfl, rfl, h2⟩
  refine h od ws B _ σ (s.put hj cd) st _ fun v B2 H2 t2 s2 d2 => ?_
  have hl' := (List.getElem?_eq_some_iff.mp hj').1
  have hj2 : (m'.set j (l, CD.lk od ws kvs))[j]? = some (l, .lk od ws kvs) := List.getElem?_set_self hl'
  obtain ⟨g1, g2⟩ := s2.lkd hj2
  have cd2 : CdOk F.K B2 (.dk kvs) (.dK ws) := g2
  have s3 := s2.put hj2 cd2
  have t3 := Tr.put s2 hj2 cd2
  rw [set_back hj'] at s3 t3
  exact ⟨g1, k _ _ ⟨B2, st_set i (st_mono t2.ex st) (sl_of d2), s3, t.trans (((Tr.put s hj cd).trans t2).trans t3), lo.trans t2.ex⟩⟩
theorem kv_at {κ : Type} : ∀ {kvs : List (κ × PyData)} {ws : List (κ × V)} {i : Nat} {k : κ} {v : V}, KvOk B kvs ws → ws[i]? = some (k, v) → ∃ d, kvs[i]? = some (k, d) ∧ Dq B v d
  | _ :: _, _ :: _, 0, _, _, h, e => by
    cases Option.some.inj e
    exact ⟨_, by rw [List.getElem?_cons_zero]; exact congrArg some (Prod.ext h.1.1 rfl), h.1.2⟩
  | _ :: kvs, _ :: ws, i + 1, _, _, h, e => kv_at (kvs := kvs) (ws := ws) (i := i) h.2 e
  | [], [], _, _, _, _, e => by simp at e
  | [], _ :: _, _, _, _, h, _ => h.elim
  | _ :: _, [], _, _, _, h, _ => h.elim
theorem kv_len' {κ : Type} : ∀ {kvs : List (κ × PyData)} {ws : List (κ × V)}, KvOk B kvs ws → ws.length = kvs.length
  | [], [], _ => rfl
  | _ :: kvs, _ :: ws, h => congrArg (· + 1) (kv_len' h.2)
  | [], _ :: _, h => h.elim
  | _ :: _, [], h => h.elim
/-- the keys of a locked dict -/
theorem src_DS (j0 : Nat) {kvs : List (Str × α)} {od : Obj} {ws : List (Key × V)} {j : Nat} (h : Ev K td ds m (.rf l) m1) (hj : m1[j0]? = some (l, .lk od ws (eK kS f kvs))) :
    Src K (iKeys td) (gName j) ds m m1 (fun m' => m'[j0]? = some (l, .lk od ws (eK kS f kvs))) (kvs.map (·.1)) (fun x ds => ds.set j (.da (dS x))) [j] := fun B H σ s st R q => h B H σ s st _ fun v B1 H1 t1 s1 d1 => by
  have e : v = .ref l := d1
  subst e
  obtain ⟨h1, h2⟩ := s1.lkd hj
  have hl : ws.length = kvs.length := by
    rw [kv_len' h2]
    unfold eK
    rw [List.length_map]
  refine ⟨l, od, rfl, .inl ⟨ws, h1, q _ B1 H1 t1 s1 ⟨fun i H B' m' hi e g s => ?_, fun H B' m' e g s => ?_, fun i x v H H' B' m' ds σ hx e g s st hy Q q => ?_⟩⟩⟩
  · rw [List.length_map] at hi
    exact ⟨(s.lkd g).1, by omega⟩
  · exact ⟨(s.lkd g).1, by rw [List.length_map]; omega⟩
  · obtain ⟨rfl, k, u, hk, rfl⟩ := hy
    obtain ⟨d, g1, _⟩ := kv_at h2 hk
    unfold eK at g1
    rw [List.getElem?_map] at g1 hx
    cases e2 : kvs[i]? with
    | none => rw [e2] at hx; cases hx
    | some p =>
      rw [e2] at g1 hx
      have e3 := Option.some.inj hx
      have e4 := (Prod.mk.inj (Option.some.inj g1)).1
      subst e3
      rw [← e4]
      exact tg_name s st (.str p.1) Q q
/-- a locked dict is read -/
theorem ev_dgetL (j : Nat) {kvs : List (Str × α)} {k : Str} {a : α} {od : Obj} {ws : List (Key × V)} {ty : TE} (hd : Ev K td ds m (.rf l) m1) (hy : Ev K ty ds m1 (.da (dS k)) m2) (hj : m2[j]? = some (l, .lk od ws (eK kS f kvs))) (h : dget kvs k = some a) : Ev K (tDGet td ty) ds m (.da (f a)) m2 := fun B H σ s st Q q =>
  hd B H σ s st _ fun x B1 H1 t1 s1 d1 => hy B1 H1 σ s1 (st_mono t1.ex st) _ fun y B2 H2 t2 s2 d2 => by
    obtain ⟨h1, h2⟩ := s2.lkd hj
    have h3 := kv_get (fun _ _ => kS_inj) (k := k) h2
    rw [h] at h3
    obtain ⟨v, h5, h6⟩ := h3
    refine ⟨l, v, d1, ?_, q v B2 H2 (t1.trans t2) s2 h6⟩
    rw [key_S d2]
    exact .inl ⟨ws, kS k, .inr ⟨od, h1⟩, rfl, h5.symm⟩
/-! ### texts -/
theorem src_St {x : Str} {j : Nat} (h : Ev K tl ds m (.da (dS x)) m1) : Src K (iStr tl) (gName j) ds m m1 (fun _ => True) (x.cps.toList.map fun c => (⟨#[c]⟩ : Str)) (fun x ds => ds.set j (.da (dS x))) [j] := fun B H σ s st R q => h B H σ s st _ fun v B1 H1 t1 s1 d1 => by
  obtain rfl := str_of d1
  refine ⟨x, rfl, q _ B1 H1 t1 s1 ⟨fun i H B' m' hi e g s => ?_, fun H B' m' e g s => ?_, fun i a v H H' B' m' ds σ hx e g s st hy Q q => ?_⟩⟩
  · rw [List.length_map, Array.length_toList] at hi
    exact hi
  · show x.cps.size ≤ _
    rw [List.length_map, Array.length_toList]
    exact Nat.le_refl _
  · obtain ⟨rfl, c, hc, rfl⟩ := hy
    rw [List.getElem?_map, Array.getElem?_toList, hc] at hx
    have e3 := Option.some.inj hx
    subst e3
    exact tg_name s st (.str _) Q q
/-- one sign in a text -/
def inS (x z : Str) : Option Bool := match x.cps.toList with
  | [c] => some (decide (c ∈ z.cps.toList))
  | _ => none
theorem rr_inS {x z : Str} {b : Bool} (h : inS x z = some b) : Rr K rInS (.da (dS x)) (.da (dS z)) m (.da (dB b)) m := Rr.of fun B H u v s dx dy Q q => by
  obtain rfl := str_of dx
  obtain rfl := str_of dy
  unfold inS at h
  split at h
  · rename_i c hc
    refine ⟨c, z, ?_, rfl, ?_⟩
    · have e : x.cps = #[c] := by rw [← Array.toArray_toList (xs := x.cps), hc]
      cases x
      cases e
      rfl
    · rw [Option.some.inj h]
      exact q _ (.bl _)
  · cases h
def getS (z : Str) (i : Int) : Option Str := if z.length ≤ 16000000 then (atI z.cps.toList i).map fun c => ⟨#[c]⟩ else none
theorem rr_ixS {z x : Str} {i : Int} (h : getS z i = some x) : Rr K rIxS (.da (dS z)) (.da (dI i)) m (.da (dS x)) m := Rr.of fun B H u v s dx dy Q q => by
  obtain rfl := str_of dx
  obtain rfl := int_of dy
  unfold getS at h
  split at h
  · rename_i hl
    obtain ⟨c, h1, h2⟩ := Option.map_eq_some_iff.mp h
    subst h2
    exact ⟨z, i, c, rfl, rfl, by rw [sizeLine_eq]; omega, h1, q _ (.str _)⟩
  · cases h
def rCatSt : R2 := fun x y H Q => ∃ i j, x = .str i ∧ y = .str j ∧ i.length + j.length ≤ sizeLine ∧ Q (.str (i ++ j)) H
theorem op_catSt {X : Cx} : OpR X (binaryOp .Add) rCatSt := op_add_str
theorem rr_catS {x z : Str} (h : lenG (x.length + z.length) = some ()) : Rr K rCatSt (.da (dS x)) (.da (dS z)) m (.da (dS (x ++ z))) m := Rr.of fun B H u v s dx dy Q q => by
  obtain rfl := str_of dx
  obtain rfl := str_of dy
  exact ⟨x, z, rfl, rfl, by have := lenG_some h; rw [sizeLine_eq]; omega, q _ (.str _)⟩
def rMulSt : R2 := fun x y H Q => ∃ z i, x = .str z ∧ y = .int i ∧ PySem.MulOk z i ∧ Q (.str (Txt.mul z i)) H
theorem op_mulSt {X : Cx} : OpR X (binaryOp .Mult) rMulSt := by
  intro pins s σ H x y v u Q I rx ry h
  obtain ⟨z, i, rfl, rfl, ok, q⟩ := h
  obtain ⟨t, rfl⟩ := rx
  obtain ⟨t', rfl⟩ := ry
  exact SB.mul ok fun t2 k => ⟨.str (Txt.mul z i), H, I.tok _, ⟨t2, rfl⟩, q⟩
instance (z : Str) (i : Int) : Decidable (PySem.MulOk z i) := by unfold PySem.MulOk; infer_instance
def mulS (z : Str) (i : Int) : Option Str := if PySem.MulOk z i then some (Txt.mul z i) else none
theorem rr_mulS {z x : Str} {i : Int} (h : mulS z i = some x) : Rr K rMulSt (.da (dS z)) (.da (dI i)) m (.da (dS x)) m := Rr.of fun B H u v s dx dy Q q => by
  obtain rfl := str_of dx
  obtain rfl := int_of dy
  unfold mulS at h
  split at h
  · rename_i ok
    refine ⟨z, i, rfl, rfl, ok, ?_⟩
    rw [Option.some.inj h]
    exact q _ (.str _)
  · cases h
theorem ev_tcS {x : Str} : Ev K (tC (.str x)) ds m (.da (dS x)) m := fun B H σ s st Q q => q _ B H (Tr.refl _ _ _) s (.str x)
theorem ev_tcI {i : Int} : Ev K (tC (.int i)) ds m (.da (dI i)) m := fun B H σ s st Q q => q _ B H (Tr.refl _ _ _) s (.int i)
def rLenSt : List V → Hp → VK → Prop := fun xs H Q => ∃ z, xs = [.str z] ∧ z.length ≤ sizeLine ∧ Q (.int z.length) H
theorem call_len_strA {X : Cx} : CallR X (.builtin "len") rLenSt := call_len_str
theorem rc_lenS {z : Str} (h : lenG z.length = some ()) : Rc K rLenSt [.da (dS z)] m (.da (dI z.length)) m := Rc.of fun B H vs s dx Q q => by
  obtain ⟨v, rfl, d1⟩ := sda1 dx
  obtain rfl := str_of d1
  exact ⟨z, rfl, by have := lenG_some h; rw [sizeLine_eq]; omega, q _ (.int _)⟩
def rLenDk : List V → Hp → VK → Prop := fun xs H Q => ∃ a kvs, xs = [V.ref a] ∧ H a = some (.dK kvs) ∧ Q (.int kvs.length) H
theorem call_lenDk {X : Cx} : CallR X (.builtin "len") rLenDk := call_lenD
theorem rc_lenD (j : Nat) {kvs : List (Str × α)} (hj : m[j]? = some (l, .dk (eK kS f kvs))) : Rc K rLenDk [.rf l] m (.da (dI kvs.length)) m := Rc.of fun B H vs s dx Q q => by
  obtain ⟨v, rfl, d1⟩ := sda1 dx
  have e : v = .ref l := d1
  subst e
  obtain ⟨ws, h1, h2⟩ := s.dk' hj
  refine ⟨l, ws, rfl, h1, ?_⟩
  have hl := kv_len' h2
  unfold eK at hl
  rw [List.length_map] at hl
  rw [hl]
  exact q _ (.int _)
/-! ### sorted(d), d.pop(k), d != {} -/
theorem rising_pw : ∀ {xs : List Str} {p : Str}, risingS p xs = true → (p :: xs).Pairwise fun a b => ltS b a = false
  | [], p, _ => List.pairwise_singleton _ _
  | x :: r, p, h => by
    have h' : (!ltCps x.cps.toList p.cps.toList && risingS x r) = true := h
    rw [Bool.and_eq_true] at h'
    have h1 : ltS x p = false := by
      have h2 := h'.1
      rw [ltCps_eq] at h2
      unfold ltS
      simpa using h2
    have ih := rising_pw h'.2
    refine List.pairwise_cons.mpr ⟨fun y hy => ?_, ih⟩
    rcases List.mem_cons.mp hy with e | hy
    · rw [e]
      exact h1
    · exact Tot.ntr (lt := ltS) inferInstance h1 ((List.pairwise_cons.mp ih).1 y hy)
def rSortDS : List V → Hp → VK → Prop := fun xs H Q => ∃ (a : Addr) (kvs : List (Key × V)) (ks : List Str), xs = [.ref a] ∧ Rd H a (.dK kvs) ∧ kvs.map (·.1) = ks.map Sum.inr ∧ ks.length < 64 ∧ ∀ ys p, ys.Perm ks → sortedS ys = true → H p = none → Q (.ref p) (upd H p (.lst (ys.map V.str)))
theorem cr_sortDS {X : Cx} (hc : X.calm = true) : CallR X (.builtin "sorted") rSortDS := call_sortedD hc
theorem kv_keysS {kvs : List (Str × α)} : ∀ {ws : List (Key × V)}, KvOk B (eK kS f kvs) ws → ws.map (·.1) = (kvs.map (·.1)).map Sum.inr := by
  induction kvs with
  | nil =>
    intro ws h
    cases ws with
    | nil => rfl
    | cons w ws => exact h.elim
  | cons p kvs ih =>
    intro ws h
    cases ws with
    | nil => exact h.elim
    | cons w ws =>
      rw [List.map_cons, List.map_cons, List.map_cons, ih h.2]
      have e : kS p.1 = w.1 := h.1.1
      rw [← e]
      rfl
theorem dqa_txts {B : Hp} : ∀ ys : List Str, DqAll B (ys.map V.str) (ys.map dS)
  | [] => .nil
  | y :: ys => .cons (.str y) (dqa_txts ys)
def lenS (n : Nat) : Option Unit := if n < 64 then some () else none
theorem rc_sortDS (j : Nat) {kvs : List (Str × α)} (hj : m[j]? = some (l, .dk (eK kS f kvs))) (hn : lenS kvs.length = some ()) : Rc K rSortDS [.rf l] m (.da (dL dS (srt ltS (kvs.map (·.1))))) m := fun B H vs s dx Q q => by
  obtain ⟨v, rfl, d1⟩ := sda1 dx
  have e : v = .ref l := d1
  subst e
  obtain ⟨ws, h1, h2⟩ := s.dk' hj
  have h64 : kvs.length < 64 := by
    unfold lenS at hn
    split at hn
    · assumption
    · cases hn
  refine ⟨l, ws, kvs.map (·.1), rfl, .inl h1, kv_keysS h2, by rw [List.length_map]; exact h64, fun ys p hp hs hn => ?_⟩
  have e2 : srt ltS (kvs.map (·.1)) = ys := by
    refine srt_uniq hp ?_
    cases ys with
    | nil => exact List.Pairwise.nil
    | cons y ys => exact rising_pw hs
  refine q _ _ _ (Tr.data s hn) (s.data hn) (Dq.lst upd_same ?_)
  rw [e2]
  exact dqa_txts ys
theorem ev_dpop (j : Nat) {kvs : List (Str × α)} {k : Str} {a : α} {ty : TE} (hd : Ev K td ds m (.rf l) m1) (hd0 : m1[j]? = some (l, .dk (eK kS f kvs))) (hy : Ev K ty ds m1 (.da (dS k)) m2) (hj : m2[j]? = some (l, .dk (eK kS f kvs))) (h : dget kvs k = some a) :
    Ev K (tDPop1 td ty) ds m (.da (f a)) (m2.set j (l, .dk (eK kS f (ddrop kvs k)))) := fun B H σ s st Q q =>
  hd B H σ s st _ fun x B1 H1 t1 s1 d1 => by
    have e : x = .ref l := d1
    subst e
    obtain ⟨ws0, g1, _⟩ := s1.dk' hd0
    refine ⟨l, rfl, .inl ⟨ws0, .inl g1⟩, hy B1 H1 σ s1 (st_mono t1.ex st) _ fun y B2 H2 t2 s2 d2 => ?_⟩
    obtain ⟨ws, h1, h2⟩ := s2.dk' hj
    have h3 := kv_get (fun _ _ => kS_inj) (k := k) h2
    rw [h] at h3
    obtain ⟨v, h5, h6⟩ := h3
    have h7 : CdOk K B2 (.dk (eK kS f (ddrop kvs k))) (.dK (dropK ws (kS k))) := kv_drop (fun _ _ => kS_inj) h2
    exact ⟨ws, kS k, v, h1, key_S d2, h5, q v B2 _ ((t1.trans t2).trans (Tr.put s2 hj h7)) (s2.put hj h7) h6⟩
/-- d != {} -/
def rNeE : R2 := fun x y H Q => ∃ a b ks, x = .ref a ∧ y = .ref b ∧ H a = some (.dK ks) ∧ H b = some (.dK []) ∧ Q (.bl (!ks.isEmpty)) H
theorem op_neE {X : Cx} (hu : X.A.units < cLine) : OpR X (compareOp .NotEq) rNeE := by
  intro pins s σ H x y v u Q I rx ry h
  obtain ⟨a, b, ks, rfl, rfl, ea, eb, q⟩ := h
  cases ks with
  | nil => exact op_ne_dictA hu pins s σ H _ _ v u Q I rx ry ⟨a, b, [], [], rfl, rfl, ea, eb, rfl, (fun _ h => nomatch h), q⟩
  | cons k ks =>
    obtain rfl : v = Value.ref a := rx
    obtain rfl : u = Value.ref b := ry
    obtain ⟨_, ya, va, ra, da⟩ := (show ObjOk X.prog X.w H s.heap a (.dK (k :: ks)) from I.hok a _ ea)
    obtain ⟨_, yb, vb, rb, db⟩ := (show ObjOk X.prog X.w H s.heap b (.dK []) from I.hok b _ eb)
    have h1 : va.length = ks.length + 1 := ra.length.symm
    have h2 : vb.length = 0 := rb.length.symm
    refine PySem.W.keq_ne (knd := mixKind X.prog X.w) (r := true) ya yb da db hu (fun e => by omega) (fin_bl I q ?_)
    have : (va.length == vb.length) = false := by
      rw [h1, h2]
      rfl
    rw [this]
    rfl
theorem ev_neE (j : Nat) {kvs : List (Str × α)} {ta tb : TE} (ha : Ev K ta ds m (.rf l) m1) (hb : tb = tDNewK) (hj : m1[j]? = some (l, .dk (eK kS f kvs))) : Ev K (tOp rNeE ta tb) ds m (.da (dB (!kvs.isEmpty))) m1 := fun B H σ s st Q q => by
  subst hb
  exact ha B H σ s st _ fun x B1 H1 t1 s1 d1 => by
    have e : x = .ref l := d1
    subst e
    intro p hp
    obtain ⟨ws, h1, h2⟩ := s1.dk' hj
    refine ⟨l, p, ws, rfl, rfl, by rw [upd_ne (ne_of_none h1 hp)]; exact h1, upd_same, ?_⟩
    have e2 : ws.isEmpty = kvs.isEmpty := by
      have hl := kv_len' h2
      unfold eK at hl
      rw [List.length_map] at hl
      cases ws <;> cases kvs <;> first | rfl | (simp at hl)
    rw [e2]
    exact q _ _ _ (t1.trans (Tr.data s1 hp)) (s1.data hp) (.bl _)
/-! ### isinstance of what has a known kind -/
def kindOf : PyData → String
  | .none => "NoneType"
  | .bool _ => "bool"
  | .int _ => "int"
  | .str _ => "str"
  | .list _ => "list"
  | .tuple _ => "tuple"
  | .dict _ => "dict"
theorem ty_of {v : V} {d : PyData} (s : SOk K B m H) (h : Dq B v d) : TyX K H v (.type (kindOf d)) := by
  cases h with
  | non => exact .base .non
  | bl b => exact .base (.bl b)
  | int i => exact .base (.int i)
  | str x => exact .base (.str x)
  | lst h _ => exact .base (.lst (s.ext _ _ h))
  | tup h _ => exact .base (.tup (s.ext _ _ h))
/-- the arguments: the value, the class by its name -/
theorem ev_isi {ta : TE} {d : PyData} {T : String} {b : Bool} (h : Ev K ta ds m (.da d) m1) (hk : kitB (kindOf d) T = some b) : Ev K (tCB (rIsi K) (tCons ta (tCons (tC (.ty T)) tNil))) ds m (.da (dB b)) m1 := fun B H σ s st Q q =>
  h B H σ s st _ fun v B1 H1 t1 s1 d1 => ⟨v, .ty T, .type (kindOf d), .type T, b, rfl, .ty T, ty_of s1 d1, kit_ty hk, q _ B1 H1 t1 s1 (.bl b)⟩
end
end FC
set_option maxHeartbeats 400000
/-! FJ: raw data: isinstance with a tuple of classes, a comparison with itself, zips. -/
namespace FC
open PySem PySem.Spec PyProof.Rows L2 Evl
section
variable {K : PySem.W.Frag} {B H : Hp} {ds : List SD} {m m1 m2 m' : M} {ta tb te : TE} {d e : PyData}
def isSeq (d : PyData) : Bool := kindOf d == "list" || kindOf d == "tuple"
theorem kit_seq (d : PyData) : PySem.W.kitAny K (.type (kindOf d)) [.type "list", .type "tuple"] = some (isSeq d) := by
  have key : ∀ k : String, ∀ b1 b2 : Bool, kitB k "list" = some b1 → kitB k "tuple" = some b2 → PySem.W.kitAny K (.type k) [.type "list", .type "tuple"] = some (b1 || b2) := fun k b1 b2 h1 h2 => by
    unfold PySem.W.kitAny
    rw [kit_ty h1]
    cases b1 with
    | true => rfl
    | false =>
      show PySem.W.kitAny K (.type k) [.type "tuple"] = _
      unfold PySem.W.kitAny
      rw [kit_ty h2]
      cases b2 <;> rfl
  cases d with
  | none => exact key "NoneType" false false (by decide +kernel) (by decide +kernel)
  | bool b => exact key "bool" false false (by decide +kernel) (by decide +kernel)
  | int i => exact key "int" false false (by decide +kernel) (by decide +kernel)
  | str x => exact key "str" false false (by decide +kernel) (by decide +kernel)
  | list xs => exact key "list" true false (by decide +kernel) (by decide +kernel)
  | tuple xs => exact key "tuple" false true (by decide +kernel) (by decide +kernel)
  | dict kvs => exact key "dict" false false (by decide +kernel) (by decide +kernel)
theorem ev_isiT (h : Ev K ta ds m (.da d) m1) : Ev K (tCB (rIsiT K) (tCons ta (tCons (tTup (tCons (tC (.ty "list")) (tCons (tC (.ty "tuple")) tNil))) tNil))) ds m (.da (dB (isSeq d))) m1 := fun B H σ s st Q q =>
  h B H σ s st _ fun v B1 H1 t1 s1 d1 => by
    refine ⟨by rw [sizeLine_eq]; show 2 ≤ 16777216; omega, fun p hp => ?_⟩
    have s2 := s1.data (o := .tup [.ty "list", .ty "tuple"]) hp
    have t2 := Tr.data (o := .tup [.ty "list", .ty "tuple"]) s1 hp
    exact ⟨v, p, _, .type (kindOf d), [.type "list", .type "tuple"], isSeq d, rfl, upd_same, .cons (.ty "list") (.cons (.ty "tuple") .nil), ty_of s2 (dp_mono t2.ex d1), kit_seq d, q _ _ _ (t1.trans t2) s2 (.bl _)⟩
/-! ### the law's own look whether two are alike -/
def SamOk : Nat → PyData → Prop
  | _, .none => True
  | _, .bool _ => True
  | _, .int _ => True
  | _, .str _ => True
  | n + 1, .list xs => xs.length ≤ 16000000 ∧ ∀ x ∈ xs, SamOk n x
  | n + 1, .tuple xs => xs.length ≤ 16000000 ∧ ∀ x ∈ xs, SamOk n x
  | _, _ => False
def pfSame : Nat → Pf
  | 0 => fun _ _ _ => False
  | n + 1 => fun as m R => ∃ d, SamOk n d ∧ as = [.da d, .da d] ∧ m = [] ∧ R = fun c m2 => c = .da (dB true) ∧ m2 = []
open Classical in
noncomputable def samG (n : Nat) (a b : PyData) : Option Bool := if a = b ∧ SamOk (n - 1) a ∧ 0 < n then some true else none
theorem samG_some {n : Nat} {a b : PyData} {r : Bool} (h : samG n a b = some r) : a = b ∧ (SamOk (n - 1) a ∧ 0 < n) ∧ r = true := by
  unfold samG at h
  split at h
  · rename_i q
    exact ⟨q.1, q.2, (Option.some.inj h).symm⟩
  · cases h
/-- raw items -/
theorem list_id (xs : List PyData) : PyData.list xs = dL id xs := by
  show _ = PyData.list (xs.map id)
  rw [List.map_id]
theorem tup_id (xs : List PyData) : PyData.tuple xs = dU id xs := by
  show _ = PyData.tuple (xs.map id)
  rw [List.map_id]
theorem zip_self_id (xs : List PyData) : xs.zip xs = xs.map fun x => (x, x) := by
  induction xs with
  | nil => rfl
  | cons x xs ih => rw [List.zip_cons_cons, ih]; rfl
/-- a scalar is itself -/
theorem rr_eqSc {d : PyData} (h : isSeq d = false) (hd : kindOf d ≠ "dict") : Rr K rEq (.da d) (.da d) m (.da (dB true)) m := Rr.of fun B H u v s dx dy Q q => by
  have dx' : Dq B u d := dx
  have dy' : Dq B v d := dy
  cases d with
  | none => cases dx'; cases dy'; exact ⟨rfl, by rw [decide_eq_true rfl]; exact q _ (.bl _)⟩
  | bool b => cases dx'; cases dy'; exact ⟨rfl, by rw [decide_eq_true rfl]; exact q _ (.bl _)⟩
  | int i => cases dx'; cases dy'; exact ⟨rfl, by rw [decide_eq_true rfl]; exact q _ (.bl _)⟩
  | str x => cases dx'; cases dy'; exact ⟨rfl, by rw [decide_eq_true rfl]; exact q _ (.bl _)⟩
  | list xs => exact absurd h (by show ¬ (true = false); decide)
  | tuple xs => exact absurd h (by show ¬ (true = false); decide)
  | dict kvs => exact absurd rfl hd
/-- d is None -/
theorem rr_isNoX {d : PyData} : Rr K rIsNo (.da d) (.da .none) m (.da (dB (kindOf d == "NoneType"))) m := Rr.of fun B H x y s dx dy Q q => by
  have dx' : Dq B x d := dx
  refine ⟨non_of dy, ?_⟩
  have key : decide (x = .non) = (kindOf d == "NoneType") := by
    cases dx' <;> rfl
  rw [key]
  exact q _ (.bl _)
/-- a call of the law's own look -/
theorem ev_same {n : Nat} {E : XK} {t : TA} {r : Bool} (h : EvA K t ds m [.da d, .da e] m1) (hs : samG n d e = some r) : Ev K (tCall (spOf K (pfSame n)) [] E t) ds m (.da (dB r)) m1 := by
  obtain ⟨rfl, h2, rfl⟩ := samG_some hs
  cases n with
  | zero => exact absurd h2.2 (Nat.lt_irrefl _)
  | succ n => exact ev_call h ⟨_, ⟨d, h2.1, rfl, rfl, rfl⟩, fun _ _ h => h⟩
end
end FC
set_option maxHeartbeats 400000
/-! FP: a calculus for the mirrors: what a chain of binds yields. -/
namespace FC
open PySem PySem.Spec PyProof.Rows L2 Evl
section
variable {α β S R : Type}
def Ok (o : Option α) (P : α → Prop) : Prop := ∃ r, o = some r ∧ P r
theorem Ok.mk {a : α} {P : α → Prop} (h : P a) : Ok (some a) P := ⟨a, rfl, h⟩
theorem Ok.bind {o : Option α} {f : α → Option β} {P : α → Prop} {Q : β → Prop} (h : Ok o P) (k : ∀ a, P a → Ok (f a) Q) : Ok (o.bind f) Q := by
  obtain ⟨a, rfl, ha⟩ := h
  exact k a ha
theorem Ok.mono {o : Option α} {P Q : α → Prop} (h : Ok o P) (k : ∀ a, P a → Q a) : Ok o Q := by
  obtain ⟨a, e, ha⟩ := h
  exact ⟨a, e, k a ha⟩
theorem Ok.eq {o : Option α} {a : α} (h : Ok o (· = a)) : o = some a := by
  obtain ⟨b, e, rfl⟩ := h
  exact e
theorem Ok.of {o : Option α} {a : α} {f : α → Option β} {Q : β → Prop} (h : o = some a) (k : Ok (f a) Q) : Ok (o.bind f) Q := by
  subst h
  exact k
theorem Ok.with {o : Option α} {P : α → Prop} {a : α} (h : Ok o P) (e : o = some a) : P a := by
  obtain ⟨b, e2, hb⟩ := h
  rw [e] at e2
  exact Option.some.inj e2 ▸ hb
theorem ok_len {n : Nat} {f : Unit → Option β} {Q : β → Prop} (h : n ≤ 16000000) (k : Ok (f ()) Q) : Ok ((lenG n).bind f) Q := Ok.of (by unfold lenG; rw [if_pos h]) k
theorem ok_mul {i j : Int} {f : Int → Option β} {Q : β → Prop} (h : MulOk i j) (k : Ok (f (i * j)) Q) : Ok ((mulG i j).bind f) Q := Ok.of (by unfold mulG; rw [if_pos h]) k
theorem mulOk_l {i j : Int} (h : -(2 ^ 64) < i ∧ i < 2 ^ 64) : MulOk i j := .inl (.inl h)
theorem mulOk_r {i j : Int} (h : -(2 ^ 64) < j ∧ j < 2 ^ 64) : MulOk i j := .inl (.inr h)
theorem ok_mod {i j : Int} {f : Int → Option β} {Q : β → Prop} (h : 0 < j) (k : 0 ≤ i % j → i % j < j → Ok (f (i % j)) Q) : Ok ((modG i j).bind f) Q := Ok.of (by unfold modG; rw [if_pos h]) (k (Int.emod_nonneg _ (by omega)) (Int.emod_lt_of_pos _ h))
theorem ok_div {i j : Int} {f : Int → Option β} {Q : β → Prop} (h : 0 < j) (h2 : j < 1073741824) (k : Ok (f (i / j)) Q) : Ok ((fdivG i j).bind f) Q := by
  refine Ok.of ?_ k
  unfold fdivG
  rw [if_pos]
  refine .inr ⟨h, ?_⟩
  have h1 : j.natAbs < 2 ^ 30 := by
    have : (2 : Nat) ^ 30 = 1073741824 := by decide
    omega
  by_cases h0 : j.natAbs = 0
  · rw [h0]
    decide
  · have := (Nat.log2_lt h0).mpr h1
    omega
theorem getI_nat {xs : List α} {i : Int} {x : α} (h0 : 0 ≤ i) (h : xs[i.toNat]? = some x) : getI xs i = some x := by
  have e : ((i.toNat : Nat) : Int) = i := Int.toNat_of_nonneg h0
  have h2 := atI_nat (j := i.toNat) h
  rw [e] at h2
  exact h2
theorem ok_get {xs : List α} {i : Int} {f : α → Option β} {Q : β → Prop} (h0 : 0 ≤ i) (h1 : i < xs.length) (k : ∀ x, xs[i.toNat]? = some x → x ∈ xs → Ok (f x) Q) : Ok ((getI xs i).bind f) Q := by
  have hl : i.toNat < xs.length := by omega
  exact Ok.of (getI_nat h0 (List.getElem?_eq_getElem hl)) (k _ (List.getElem?_eq_getElem hl) (List.getElem_mem hl))
theorem ok_rng {a b : Int} {f : List Int → Option β} {Q : β → Prop} (h1 : -(2 ^ 62) ≤ a ∧ a < 2 ^ 62) (h2 : -(2 ^ 62) ≤ b ∧ b < 2 ^ 62) (k : Ok (f (rng a b)) Q) : Ok ((rngG a b).bind f) Q := Ok.of (by unfold rngG; rw [if_pos ⟨h1.1, h1.2, h2.1, h2.2⟩]) k
theorem rng_len (a b : Int) : (rng a b).length = (b - a).toNat := by
  unfold rng
  rw [List.length_map, List.length_range]
theorem mem_rng {a b i : Int} : i ∈ rng a b ↔ a ≤ i ∧ i < b := by
  unfold rng
  rw [List.mem_map]
  constructor
  · rintro ⟨j, hj, rfl⟩
    have := List.mem_range.mp hj
    omega
  · rintro ⟨h1, h2⟩
    exact ⟨(i - a).toNat, List.mem_range.mpr (by omega), by omega⟩
theorem ok_cond {b : Bool} {x y : Option α} {Q : α → Prop} (h1 : b = true → Ok x Q) (h2 : b = false → Ok y Q) : Ok (cond b x y) Q := by
  cases b
  · exact h2 rfl
  · exact h1 rfl
theorem mapO_of {step : α → Option β} {g : α → β} : ∀ {xs : List α}, (∀ x ∈ xs, step x = some (g x)) → mapO step xs = some (xs.map g)
  | [], _ => rfl
  | x :: xs, h => by
    show (step x).bind _ = _
    rw [h x List.mem_cons_self]
    show (mapO step xs).bind _ = _
    rw [mapO_of fun y hy => h y (List.mem_cons_of_mem _ hy)]
    rfl
theorem ok_mapO {step : α → Option β} {G : β → Prop} : ∀ {xs : List α}, (∀ x ∈ xs, Ok (step x) G) → Ok (mapO step xs) fun ys => ys.length = xs.length ∧ ∀ y ∈ ys, G y
  | [], _ => ⟨[], rfl, rfl, fun _ h => nomatch h⟩
  | x :: xs, h => by
    refine Ok.bind (h x List.mem_cons_self) fun y hy => Ok.bind (ok_mapO fun z hz => h z (List.mem_cons_of_mem _ hz)) fun ys hys => ?_
    refine Ok.mk ⟨by rw [List.length_cons, List.length_cons, hys.1], fun z hz => ?_⟩
    rcases List.mem_cons.mp hz with rfl | hz
    · exact hy
    · exact hys.2 z hz
/-- a loop; I: what holds behind the turns over a first part -/
theorem ok_forF {step : S → α → Option S} (I : List α → S → Prop) : ∀ {xs p : List α} {s : S}, I p s → (∀ q x r s, p ++ xs = q ++ x :: r → I q s → Ok (step s x) (I (q ++ [x]))) → Ok (forF step s xs) (I (p ++ xs))
  | [], p, s, h0, _ => ⟨s, rfl, by rw [List.append_nil]; exact h0⟩
  | x :: xs, p, s, h0, h => by
    refine Ok.bind (h p x xs s rfl h0) fun s' h' => ?_
    have e : p ++ x :: xs = (p ++ [x]) ++ xs := by rw [List.append_assoc]; rfl
    rw [e]
    exact ok_forF I h' fun q y r s hq => h q y r s (by rw [e]; exact hq)
theorem ok_for {step : S → α → Option S} (I : List α → S → Prop) {xs : List α} {s : S} (h0 : I [] s) (h : ∀ q x r s, xs = q ++ x :: r → I q s → Ok (step s x) (I (q ++ [x]))) : Ok (forF step s xs) (I xs) := ok_forF I (p := []) h0 h
/-- a loop whose state grows by the turn's number alone -/
theorem ok_forN {step : S → α → Option S} (I : Nat → S → Prop) {xs : List α} {s : S} (h0 : I 0 s) (h : ∀ n x s, x ∈ xs → n < xs.length → I n s → Ok (step s x) (I (n + 1))) : Ok (forF step s xs) (I xs.length) := by
  refine (ok_for (fun q s => I q.length s) h0 fun q x r s e hI => ?_)
  have h1 := h q.length x s (by rw [e]; simp) (by rw [e]; simp) hI
  exact h1.mono fun a ha => by rw [List.length_append]; exact ha
theorem ok_mapSN {step : S → α → Option (β × S)} (I : Nat → S → Prop) (G : β → Prop) : ∀ {xs : List α} {s : S} {k : Nat}, I k s → (∀ n x s, x ∈ xs → n < k + xs.length → I n s → Ok (step s x) fun r => G r.1 ∧ I (n + 1) r.2) → Ok (mapS step s xs) fun r => r.1.length = xs.length ∧ (∀ y ∈ r.1, G y) ∧ I (k + xs.length) r.2
  | [], s, k, h0, _ => ⟨([], s), rfl, rfl, (fun _ h => nomatch h), h0⟩
  | x :: xs, s, k, h0, h => by
    refine Ok.bind (h k x s List.mem_cons_self (by rw [List.length_cons]; omega) h0) fun r hr => Ok.bind (ok_mapSN I G (k := k + 1) hr.2 fun n y s hy hl => h n y s (List.mem_cons_of_mem _ hy) (by rw [List.length_cons]; omega)) fun r2 h2 => ?_
    refine Ok.mk ⟨by show (r.1 :: r2.1).length = _; rw [List.length_cons, List.length_cons, h2.1], fun z hz => ?_, ?_⟩
    · rcases List.mem_cons.mp hz with rfl | hz
      · exact hr.1
      · exact h2.2.1 z hz
    · have e : k + (x :: xs).length = k + 1 + xs.length := by rw [List.length_cons]; omega
      rw [e]
      exact h2.2.2
/-- a loop that is never left -/
theorem ok_forCp {step : S → α → Option (Ctl S R)} (I : List α → S → Prop) : ∀ {xs p : List α} {s : S}, I p s → (∀ q x r s, p ++ xs = q ++ x :: r → I q s → Ok (step s x) fun c => ∃ s', c = .nx s' ∧ I (q ++ [x]) s') → Ok (forC step s xs) fun c => ∃ s', c = .nx s' ∧ I (p ++ xs) s'
  | [], p, s, h0, _ => ⟨.nx s, rfl, s, rfl, by rw [List.append_nil]; exact h0⟩
  | x :: xs, p, s, h0, h => by
    refine Ok.bind (h p x xs s rfl h0) fun c hc => ?_
    obtain ⟨s', rfl, h'⟩ := hc
    have e : p ++ x :: xs = (p ++ [x]) ++ xs := by rw [List.append_assoc]; rfl
    rw [e]
    exact ok_forCp I h' fun q y r s hq => h q y r s (by rw [e]; exact hq)
theorem ok_forC {step : S → α → Option (Ctl S R)} (I : List α → S → Prop) {xs : List α} {s : S} (h0 : I [] s) (h : ∀ q x r s, xs = q ++ x :: r → I q s → Ok (step s x) fun c => ∃ s', c = .nx s' ∧ I (q ++ [x]) s') : Ok (forC step s xs) fun c => ∃ s', c = .nx s' ∧ I xs s' := ok_forCp I (p := []) h0 h
/-- the same where nothing but the item matters -/
theorem ok_forC0 {step : Unit → α → Option (Ctl Unit R)} {xs : List α} (h : ∀ x ∈ xs, step () x = some (.nx ())) : forC step () xs = some (.nx ()) := by
  obtain ⟨c, e, s, rfl, _⟩ := ok_forC (xs := xs) (fun _ _ => True) (step := step) (s := ()) True.intro fun q x r s e _ => ⟨.nx (), h x (by rw [e]; simp), (), rfl, True.intro⟩
  exact e
theorem cutI_take (xs : List α) (k : Int) (h : 0 ≤ k) : cutI xs none (some k) = xs.take k.toNat := by
  obtain ⟨n, rfl⟩ := Int.eq_ofNat_of_zero_le h
  unfold cutI
  rw [show HT.sIx xs.length 0 none = 0 from rfl, show HT.sIx xs.length xs.length (some ((n : Nat) : Int)) = min n xs.length from HT.sIx_nat xs.length xs.length n]
  show List.take (min n xs.length - 0) xs = xs.take ((n : Nat) : Int).toNat
  rw [Int.toNat_natCast, Nat.sub_zero]
  by_cases hn : n ≤ xs.length
  · rw [Nat.min_eq_left hn]
  · rw [Nat.min_eq_right (by omega), List.take_length, List.take_of_length_le (by omega)]
end
/-! ### the first least one -/
section
variable {α : Type}
def FM (c : α → Int) (l : List α) (m : α) : Prop := ∃ l1 l2, l = l1 ++ m :: l2 ∧ (∀ x ∈ l1, c m < c x) ∧ ∀ x ∈ l2, c m ≤ c x
theorem FM.mem {c : α → Int} {l : List α} {m : α} (h : FM c l m) : m ∈ l := by
  obtain ⟨l1, l2, rfl, _⟩ := h
  simp
theorem FM.le {c : α → Int} {l : List α} {m : α} (h : FM c l m) {x : α} (hx : x ∈ l) : c m ≤ c x := by
  obtain ⟨l1, l2, rfl, h1, h2⟩ := h
  rcases List.mem_append.mp hx with hx | hx
  · exact Int.le_of_lt (h1 x hx)
  · rcases List.mem_cons.mp hx with rfl | hx
    · exact Int.le_refl _
    · exact h2 x hx
theorem FM.uniq {c : α → Int} {l : List α} {m m' : α} (h : FM c l m) (h' : FM c l m') : m = m' := by
  obtain ⟨l1, l2, rfl, h1, h2⟩ := h
  obtain ⟨k1, k2, e, g1, g2⟩ := h'
  have := List.append_eq_append_iff.mp e
  rcases this with ⟨as, e1, e2⟩ | ⟨bs, e1, e2⟩
  · cases as with
    | nil => exact (List.cons.inj e2).1
    | cons a as =>
      have ea := (List.cons.inj e2).1
      have i1 := g1 m (by rw [e1, ea]; simp)
      have i2 := h2 m' (by rw [(List.cons.inj e2).2]; simp)
      omega
  · cases bs with
    | nil => exact (List.cons.inj e2).1.symm
    | cons b bs =>
      have eb := (List.cons.inj e2).1
      have i1 := h1 m' (by rw [e1, eb]; simp)
      have i2 := g2 m (by rw [(List.cons.inj e2).2]; simp)
      omega
theorem FM.congr {c d : α → Int} {l : List α} {m : α} (h : FM c l m) (e : ∀ x ∈ l, c x = d x) : FM d l m := by
  have hm := e m h.mem
  obtain ⟨l1, l2, rfl, h1, h2⟩ := h
  refine ⟨l1, l2, rfl, fun x hx => ?_, fun x hx => ?_⟩
  · rw [← hm, ← e x (by simp [hx])]
    exact h1 x hx
  · rw [← hm, ← e x (by simp [hx])]
    exact h2 x hx
theorem FM.one (c : α → Int) (a : α) : FM c [a] a := ⟨[], [], rfl, (fun _ h => nomatch h), fun _ h => nomatch h⟩
theorem FM.snoc {c : α → Int} {l : List α} {m y : α} (h : FM c l m) : FM c (l ++ [y]) (if c y < c m then y else m) := by
  by_cases hy : c y < c m
  · rw [if_pos hy]
    exact ⟨l, [], rfl, fun x hx => Int.lt_of_lt_of_le hy (h.le hx), fun _ h => nomatch h⟩
  · rw [if_neg hy]
    obtain ⟨l1, l2, rfl, h1, h2⟩ := h
    refine ⟨l1, l2 ++ [y], by simp, h1, fun x hx => ?_⟩
    rcases List.mem_append.mp hx with hx | hx
    · exact h2 x hx
    · rw [List.mem_singleton.mp hx]
      omega
/-- the least of a list, by an order that is c's at later items -/
theorem fm_fold {c : α → Int} {lt : α → α → Bool} : ∀ {xs p : List α} {m : α}, FM c p m → (∀ q y r, p ++ xs = q ++ y :: r → ∀ z ∈ q, lt y z = decide (c y < c z)) → FM c (p ++ xs) (xs.foldl (fun a y => if lt y a = true then y else a) m)
  | [], p, m, h, _ => by rw [List.append_nil]; exact h
  | y :: xs, p, m, h, hl => by
    have e : p ++ y :: xs = (p ++ [y]) ++ xs := by rw [List.append_assoc]; rfl
    rw [e, List.foldl_cons]
    refine fm_fold (p := p ++ [y]) ?_ fun q z r hq => hl q z r (by rw [e]; exact hq)
    have h1 := hl p y xs rfl m h.mem
    rw [h1]
    have h2 := h.snoc (y := y)
    by_cases hy : c y < c m
    · rw [if_pos hy] at h2
      rw [if_pos (decide_eq_true hy)]
      exact h2
    · rw [if_neg hy] at h2
      rw [if_neg (fun z => hy (of_decide_eq_true z))]
      exact h2
theorem fm_minL {c : α → Int} {lt : α → α → Bool} {x : α} {xs : List α} (hl : ∀ q y r, x :: xs = q ++ y :: r → ∀ z ∈ q, lt y z = decide (c y < c z)) : ∃ m, minL lt (x :: xs) = some m ∧ FM c (x :: xs) m :=
  ⟨_, rfl, fm_fold (p := [x]) (FM.one c x) fun q y r e => hl q y r e⟩
end
/-- the law's own call -/
theorem law_start {K : PySem.W.Frag} {F : Pf} {a : Addr} {ns : List Int} {H : Hp} {E : XK} (hF : ∃ R, F [.sl a ns] [] R ∧ ∀ r m2, R r m2 → r = .da (dB true)) (hS : SqL K H a (ns.map V.int)) : spOf K F [.ref a] H (fun v _ => v = .bl true) E := by
  obtain ⟨R, h1, h2⟩ := hF
  refine ⟨H, [.sl a ns], [], R, h1, ⟨fun _ _ h => h, List.nodup_nil, (fun _ h => nomatch h), fun _ h => nomatch h⟩, ⟨⟨rfl, hS⟩, True.intro⟩, fun v B2 H2 r m2 hr _ _ hv => ?_⟩
  have e := h2 r m2 hr
  subst e
  exact bl_of hv
end FC
set_option maxHeartbeats 400000
/-! FK: bits, tests that may fail, reversed, insert, pop, clear, calls that give a new list. -/
namespace FC
open PySem PySem.Spec PyProof.Rows L2 Evl
section
variable {K : PySem.W.Frag} {B H : Hp} {ds : List SD} {m m1 m2 m' mc mc' : M} {α β S : Type} {f : α → PyData} {f2 : β → PyData} {tl te ta to ti : TE} {t : TA} {tt : TT} {wi : TI} {g : TG} {G : M → Prop} {rs : List SD} {c : SD} {F : Pf} {E : XK}
/-! ### bits -/
def shlG (i j : Int) : Option Int := if CPow i j then some (i * 2 ^ j.toNat) else none
def shrG (i j : Int) : Option Int := if 0 ≤ j then some (i / 2 ^ j.toNat) else none
theorem rr_shl {i j k : Int} (h : shlG i j = some k) : Rr K (rI CPow fun i j => .int (i * 2 ^ j.toNat)) (.da (dI i)) (.da (dI j)) m (.da (dI k)) m := by
  unfold shlG at h
  split at h
  · rename_i q
    exact rr_c (f := fun i j => i * 2 ^ j.toNat) q (Option.some.inj h)
  · cases h
theorem rr_shr {i j k : Int} (h : shrG i j = some k) : Rr K (rI (fun _ j => 0 ≤ j) fun i j => .int (i / 2 ^ j.toNat)) (.da (dI i)) (.da (dI j)) m (.da (dI k)) m := by
  unfold shrG at h
  split at h
  · rename_i q
    exact rr_c (C := fun _ j => 0 ≤ j) (f := fun i j => i / 2 ^ j.toNat) q (Option.some.inj h)
  · cases h
/-! ### a comprehension with a test that may fail -/
theorem filO_tests {test : α → Option Bool} {step : α → Option β} : ∀ {items : List α} {out : List β}, filO test step items = some out → ∀ x ∈ items, ∃ b, test x = some b
  | [], _, _, x, hx => nomatch hx
  | y :: r, out, h, x, hx => by
    obtain ⟨b, h1, h2⟩ := bindS h
    rcases List.mem_cons.mp hx with rfl | hx
    · exact ⟨b, h1⟩
    · cases b with
      | true =>
        obtain ⟨_, _, h2⟩ := bindS h2
        obtain ⟨ys, h4, _⟩ := bindS h2
        exact filO_tests h4 x hx
      | false => exact filO_tests h2 x hx
theorem filO_pureT {test : α → Option Bool} {step : α → Option β} : ∀ {items : List α} {out : List β}, filO test step items = some out → filO (fun x => some ((test x).getD false)) step items = some out
  | [], _, h => h
  | y :: r, out, h => by
    obtain ⟨b, h1, h2⟩ := bindS h
    show (some ((test y).getD false)).bind _ = _
    rw [h1]
    show cond b _ _ = _
    cases b with
    | true =>
      obtain ⟨y', h3, h2⟩ := bindS h2
      obtain ⟨ys, h4, h2⟩ := bindS h2
      show (step y).bind _ = _
      rw [h3]
      show (filO _ step r).bind _ = _
      rw [filO_pureT h4]
      exact h2
    | false => exact filO_pureT h2
theorem lc_filO {items : List α} {up : α → List SD → List SD} {js vs : List Nat} {test : α → Option Bool} {step : α → Option β} {out : List β} (hs : Src K wi g ds m m1 G items up js) (hjs : ∀ j ∈ js, j ∈ vs) (hG : ∀ c, G (m1 ++ c)) (hn : lenG items.length = some ())
    (h : filO test step items = some out) (bt : ∀ x b, x ∈ items → test x = some b → EvT K tt (up x (wipeD ds vs)) m1 b m1) (body : ∀ x y, x ∈ items → test x = some true → step x = some y → Ev K te (up x (wipeD ds vs)) m1 (.da (f2 y)) m1) :
    ∀ B H σ, SOk K B m H → StOk K B ds σ → ∀ Q : VK, (∀ p B2 H2, Tr B H (keys m) B2 H2 (keys (m1 ++ [(p, .ls (out.map f2))])) → SOk K B2 (m1 ++ [(p, .ls (out.map f2))]) H2 → H p = none → Q (.ref p) H2) → tLc wi g tt te vs σ H Q :=
  lc_fil (test := fun x => (test x).getD false) hs hjs hG hn (filO_pureT h) (fun x hx => by
    obtain ⟨b, hb⟩ := filO_tests h x hx
    rw [hb]
    exact bt x b hx hb) fun x y hx hb hy => by
    obtain ⟨b, hb2⟩ := filO_tests h x hx
    rw [hb2] at hb
    have hb' : b = true := hb
    subst hb'
    exact body x y hx hb2 hy
/-! ### reversed -/
theorem src_RvR {a b : Int} {xs : List Int} {j : Nat} {tr : L2.St → Hp → (Int → Int → Hp → Prop) → Prop}
    (h : ∀ B H σ, SOk K B m H → StOk K B ds σ → ∀ Q : Int → Int → Hp → Prop, (∀ B2 H2, Tr B H (keys m) B2 H2 (keys m1) → SOk K B2 m1 H2 → Q a b H2) → tr σ H Q) (hx : rngG a b = some xs) :
    Src K (iRevR tr) (gName j) ds m m1 (fun _ => True) xs.reverse (fun x ds => ds.set j (.da (dI x))) [j] := fun B H σ s st R q => h B H σ s st _ fun B1 H1 t1 s1 => by
  obtain ⟨⟨h1, h2, h3, h4⟩, rfl⟩ := rngG_some hx
  refine ⟨h1, h2, h3, h4, q _ B1 H1 t1 s1 ?_⟩
  have hl : (rng a b).length = (b - a).toNat := by
    unfold rng
    rw [List.length_map, List.length_range]
  refine ⟨fun i H B' m' hi e g s => ?_, fun H B' m' e g s => ?_, fun i x v H H' B' m' ds σ hx e g s st hy Q q => ?_⟩
  · rw [List.length_reverse, hl] at hi
    exact hi
  · rw [List.length_reverse, hl]
    exact Nat.le_refl _
  · obtain ⟨rfl, rfl⟩ := hy
    have hi : i < (rng a b).reverse.length := (List.getElem?_eq_some_iff.mp hx).1
    rw [List.length_reverse] at hi
    rw [List.getElem?_reverse hi, hl] at hx
    unfold rng at hx
    rw [List.getElem?_map, List.getElem?_range (by omega)] at hx
    have hx' : a + (((b - a).toNat - 1 - i : Nat) : Int) = x := Option.some.inj hx
    rw [hl] at hi
    have e : a + (((b - a).toNat : Nat) : Int) - 1 + (i : Nat) * (-1) = x := by
      rw [← hx']
      omega
    rw [e]
    exact tg_name s st (.int _) Q q
theorem tr_1 {n : Int} (h : Ev K ta ds m (.da (dI n)) m1) : ∀ B H σ, SOk K B m H → StOk K B ds σ → ∀ Q : Int → Int → Hp → Prop, (∀ B2 H2, Tr B H (keys m) B2 H2 (keys m1) → SOk K B2 m1 H2 → Q 0 n H2) → tRg1 ta σ H Q := fun B H σ s st Q q => h B H σ s st _ fun v B2 H2 t s2 d => ⟨n, int_of d, q B2 H2 t s2⟩
theorem src_RvL {xs : List α} {j : Nat} (h : EvA K t ds m [.da (dL f xs)] m1) : Src K (iRev K t) (gName j) ds m m1 (fun _ => True) xs.reverse (fun x ds => ds.set j (.da (f x))) [j] := fun B H σ s st R q => h B H σ s st _ fun vs B1 H1 t1 s1 d1 => by
  obtain ⟨v, rfl, d⟩ := sda1 d1
  obtain ⟨p, ws, rfl, hp, ha⟩ := lst_of d
  have hl := dpa_len ha
  rw [List.length_map] at hl
  have hL : ∀ {H B' m'}, Ex B1 B' → SOk K B' m' H → SqL K H p ws := fun e s => SqL.of (s.ext _ _ (e _ _ hp))
  refine ⟨p, ws, rfl, SqL.of (s1.ext _ _ hp), q _ B1 H1 t1 s1 ⟨fun i H B' m' hi e g s => ?_, fun H B' m' e g s => ?_, fun i x v H H' B' m' ds σ hx e g s st hy Q q => ?_⟩⟩
  · rw [List.length_reverse] at hi
    have hi' : ws.length - 1 - i < ws.length := by omega
    exact ⟨by omega, ws, ws[ws.length - 1 - i], hL e s, List.getElem?_eq_getElem hi'⟩
  · rw [List.length_reverse]
    exact Nat.le_of_eq hl
  · obtain ⟨rfl, y2⟩ := hy
    have hi : i < xs.reverse.length := (List.getElem?_eq_some_iff.mp hx).1
    rw [List.length_reverse] at hi
    rw [List.getElem?_reverse hi, ← hl] at hx
    obtain ⟨w, h1, h2⟩ := dqa_some ha hx
    have h3 := y2 ws (hL e s)
    rw [h1] at h3
    rw [← Option.some.inj h3]
    exact tg_name s st (dp_mono e h2) Q q
theorem ev_revL {xs : List α} (h : Ev K te ds m (.da (dL f xs)) m1) : Ev K (tRevL K te) ds m (.da (dL f xs.reverse)) m1 := fun B H σ s st Q q => h B H σ s st _ fun v B1 H1 t1 s1 d1 => by
  obtain ⟨p, ws, rfl, hp, ha⟩ := lst_of d1
  refine ⟨p, ws, rfl, SqL.of (s1.ext _ _ hp), fun l hl => q _ _ _ (t1.trans (Tr.data s1 hl)) (s1.data hl) (Dq.lst upd_same ?_)⟩
  rw [List.map_reverse]
  exact dqa_rev (dpa_mono (Ex.new (fresh_b s1 hl)) ha)
where
  dqa_rev {B : Hp} : ∀ {vs : List V} {dl : List PyData}, DqAll B vs dl → DqAll B vs.reverse dl.reverse
    | _, _, .nil => .nil
    | _, _, .cons h t => by
      rw [List.reverse_cons, List.reverse_cons]
      exact dqa_app (dqa_rev t) (.cons h .nil)
theorem ev_revC {xs : List α} {l : Addr} (j : Nat) (h : Ev K te ds m (.rf l) m1) (hj : m1[j]? = some (l, .ls (xs.map f))) : Ev K (tRevL K te) ds m (.da (dL f xs.reverse)) m1 := fun B H σ s st Q q => h B H σ s st _ fun v B1 H1 t1 s1 d1 => by
  have e : v = .ref l := d1
  subst e
  obtain ⟨ws, hp, ha⟩ := s1.ls hj
  refine ⟨l, ws, rfl, SqL.of hp, fun p hl => q _ _ _ (t1.trans (Tr.data s1 hl)) (s1.data hl) (Dq.lst upd_same ?_)⟩
  rw [List.map_reverse]
  exact ev_revL.dqa_rev (dpa_mono (Ex.new (fresh_b s1 hl)) ha)
/-! ### a list's methods -/
def rIns : V → List V → Hp → VK → Prop := fun x vs H Q => ∃ (l : Addr) (xs : List V) (i : Int) (y : V), x = .ref l ∧ vs = [.int i, y] ∧ H l = some (.lst xs) ∧ xs.length < sizeLine ∧ 0 ≤ i ∧ i < 2 ^ 63 ∧
    Q .non (upd H l (.lst (xs.take i.toNat ++ [y] ++ xs.drop i.toNat)))
def insI (xs : List α) (i : Int) (x : α) : Option (List α) := if 0 ≤ i ∧ i < 2 ^ 63 ∧ xs.length ≤ 16000000 then some (xs.take i.toNat ++ [x] ++ xs.drop i.toNat) else none
theorem rm_ins {xs ys : List α} {i : Int} {x : α} {l : Addr} (j : Nat) (hj : m[j]? = some (l, .ls (xs.map f))) (hz : insI xs i x = some ys) : Rm K rIns (.rf l) [.da (dI i), .da (f x)] m (.da .none) (m.set j (l, .ls (ys.map f))) := fun B H v vs s dx da Q q => by
  obtain ⟨y, w, rfl, d1, d2⟩ := sda2 da
  obtain ⟨ws, hp, ha⟩ := s.ls hj
  have h1 := dpa_len ha
  rw [List.length_map] at h1
  unfold insI at hz
  split at hz
  · rename_i hc
    have e := Option.some.inj hz
    subst e
    refine ⟨l, ws, i, w, dx, by rw [int_of d1], hp, by rw [sizeLine_eq]; omega, hc.1, hc.2.1, q _ _ _ (Tr.put s hj ?_) (s.put hj ?_) .non⟩
    all_goals
      rw [List.map_append, List.map_append, List.map_take, List.map_drop]
      exact dqa_app (dqa_app (dqa_take _ ha) (.cons d2 .nil)) (dqa_drop _ ha)
  · cases hz
def popI (xs : List α) (i : Int) : Option (α × List α) := if -(2 ^ 63) ≤ i ∧ i < 2 ^ 63 then (ixN xs.length i).bind fun k => (xs[k]?).bind fun x => some (x, xs.eraseIdx k) else none
theorem dqa_erase {B : Hp} : ∀ {vs : List V} {dl : List PyData} (k : Nat), DqAll B vs dl → DqAll B (vs.eraseIdx k) (dl.eraseIdx k)
  | _, _, _, .nil => .nil
  | _, _, 0, .cons h t => t
  | _, _, k + 1, .cons h t => .cons h (dqa_erase k t)
theorem map_erase (f : α → PyData) : ∀ (xs : List α) (k : Nat), (xs.eraseIdx k).map f = (xs.map f).eraseIdx k
  | [], _ => rfl
  | _ :: _, 0 => rfl
  | x :: xs, k + 1 => by
    show f x :: (xs.eraseIdx k).map f = f x :: (xs.map f).eraseIdx k
    rw [map_erase f xs k]
theorem rm_popI {xs ys : List α} {i : Int} {x : α} {l : Addr} (j : Nat) (hj : m[j]? = some (l, .ls (xs.map f))) (hz : popI xs i = some (x, ys)) : Rm K rPopAt (.rf l) [.da (dI i)] m (.da (f x)) (m.set j (l, .ls (ys.map f))) := fun B H v vs s dx da Q q => by
  obtain ⟨y, rfl, d1⟩ := sda1 da
  obtain ⟨ws, hp, ha⟩ := s.ls hj
  have h1 := dpa_len ha
  rw [List.length_map] at h1
  unfold popI at hz
  split at hz
  · rename_i hc
    obtain ⟨k, e1, hz⟩ := bindS hz
    obtain ⟨x', e2, hz⟩ := bindS hz
    have e := Option.some.inj hz
    injection e with e3 e4
    subst e3 e4
    obtain ⟨g1, g2, _, _⟩ := ixN_seq e1
    obtain ⟨w, g3, g4⟩ := dqa_some ha e2
    refine ⟨l, ws, i, k, w, dx, by rw [int_of d1], hp, hc.1, hc.2, by rw [h1]; exact g1, g3, q _ _ _ (Tr.put s hj ?_) (s.put hj ?_) g4⟩
    all_goals
      rw [map_erase]
      exact dqa_erase k ha
  · cases hz
theorem rm_clear {xs : List α} {l : Addr} (j : Nat) (hj : m[j]? = some (l, .ls (xs.map f))) : Rm K rClear (.rf l) [] m (.da .none) (m.set j (l, .ls (([] : List α).map f))) := fun B H v vs s dx da Q q => by
  obtain ⟨ws, hp, ha⟩ := s.ls hj
  have e : vs = [] := by
    cases vs with
    | nil => rfl
    | cons a b => exact da.elim
  subst e
  exact ⟨l, ws, dx, rfl, hp, q _ _ _ (Tr.put s hj (show CdOk K B (.ls (([] : List α).map f)) (.lst []) from .nil)) (s.put hj (show CdOk K B (.ls (([] : List α).map f)) (.lst []) from .nil)) .non⟩
/-! ### calls that give a new list -/
theorem en_callP {fr : M} {cd : CD} (h : EvA K t ds m rs m1) (hp : (mc ++ fr).Perm m1) (hp' : (mc' ++ fr).Perm m2) (hF : ∃ R, F rs mc R ∧ ∀ r mz, R r mz → ∃ p, r = .rf p ∧ mz = mc' ++ [(p, cd)]) : EvN K (tCall (spOf K F) [] E t) ds m cd m2 := fun B H σ s st Q q =>
  (eg_call (A := Addr) (r := SD.rf) (Good := fun p mN => mN = [(p, cd)]) h hp hp' (hF.imp fun R hR => ⟨hR.1, fun c mz hc => by
    obtain ⟨p, e1, e2⟩ := hR.2 c mz hc
    exact ⟨p, _, e1, e2, rfl⟩⟩)) B H σ s st Q fun v p mN B2 H2 hg t2 s2 d2 => by
      subst hg
      have e : v = .ref p := d2
      subst e
      exact q p B2 H2 t2 s2
theorem en_methP (j : Nat) {mt : Str} {fr m3 : M} {cd : CD} {p C dx : Addr} {names : List Str} {sds : List SD} (ho : Ev K ta ds m (.rf p) m1) (hj : m1[j]? = some (p, obj C dx names sds)) (hl : sds.length ≤ names.length) (hm : mt ∉ names) (h : EvA K t ds m1 rs m2) (hp : (mc ++ fr).Perm m2) (hp' : (mc' ++ fr).Perm m3)
    (hF : ∃ R, F (.rf p :: rs) mc R ∧ ∀ r mz, R r mz → ∃ p, r = .rf p ∧ mz = mc' ++ [(p, cd)]) : EvN K (tMeth C mt (spOf K F) [] E ta t) ds m cd m3 := fun B H σ s st Q q =>
  ho B H σ s st _ fun x B1 H1 t1 s1 d1 => by
    have e : x = .ref p := d1
    subst e
    obtain ⟨vs, h1, _, _⟩ := s1.ob hj hl
    refine ⟨p, dx, _, rfl, h1, lookup_no (zip_keys hm), h B1 H1 σ s1 (st_mono t1.ex st) _ fun us B2 H2 t2 s2 d2 => ?_⟩
    rw [List.append_nil]
    obtain ⟨R, hR, hq⟩ := hF
    have s2' : SOk K B2 (mc ++ fr) H2 := s2.perm hp
    refine ⟨B2, .rf p :: rs, mc, R, hR, s2'.sub (List.sublist_append_left _ _), ⟨rfl, d2⟩, fun v B3 H3 c mz hr t3 s3 d3 => ?_⟩
    obtain ⟨a, rfl, rfl⟩ := hq c mz hr
    obtain ⟨t4, s4⟩ := fr_ok s2' t3 s3
    have pz : (mc' ++ [(a, cd)] ++ fr).Perm (m3 ++ [(a, cd)]) := by
      have e1 : (mc' ++ [(a, cd)] ++ fr).Perm (mc' ++ fr ++ [(a, cd)]) := by
        rw [List.append_assoc, List.append_assoc]
        exact List.Perm.append_left mc' List.perm_append_comm
      exact e1.trans (hp'.append_right _)
    have ev : v = .ref a := d3
    subst ev
    exact q a B3 H3 ((t1.trans t2).trans (t4.perm (fun a => (hp.map Prod.fst).mem_iff) (fun a => (pz.map Prod.fst).mem_iff))) (s4.perm pz.symm)
/-- a new list, taken as data at once -/
theorem ev_frz {dl : List PyData} (h : EvN K te ds m (.ls dl) m1) (hk : keys m1 = keys m) : Ev K te ds m (.da (.list dl)) m1 := fun B H σ s st Q q => h B H σ s st _ fun p B2 H2 t2 s2 => by
  have hj : (m1 ++ [(p, CD.ls dl)])[m1.length]? = some (p, .ls dl) := by
    rw [List.getElem?_append_right (Nat.le_refl _), Nat.sub_self]
    rfl
  obtain ⟨ws, h1, h2⟩ := s2.ls hj
  have he : (m1 ++ [(p, CD.ls dl)]).eraseIdx m1.length = m1 := by
    rw [List.eraseIdx_append_of_length_le (Nat.le_refl _), Nat.sub_self]
    exact List.append_nil _
  have hB2 : B2 p = none := s2.out (p, .ls dl) (List.mem_append_right _ (List.mem_singleton.mpr rfl))
  have hnew : p ∉ keys m := fun z => by
    have nd := s2.nd
    rw [keys_app] at nd
    exact (List.nodup_append.mp nd).2.2 p (by rw [hk]; exact z) p (List.mem_singleton.mpr rfl) rfl
  have t3 := t2.frz s2 (fun a ha => by
    obtain ⟨c, hc, e⟩ := List.mem_map.mp ha
    rw [← e]
    exact s.ne hc) (o := .lst ws) hj hnew
  have s3 := s2.frz hj h1
  rw [he] at t3 s3
  exact q _ _ _ t3 s3 (Dq.lst upd_same (dpa_mono (Ex.new hB2) h2))
/-- e.clear(), e a new list that is needed no more -/
theorem ev_clrN {dl : List PyData} (h : EvN K te ds m (.ls dl) m1) : Ev K (tBM0 K "list" rClear te) ds m (.da .none) m1 := fun B H σ s st Q q => h B H σ s st _ fun p B2 H2 t2 s2 => by
  have hj : (m1 ++ [(p, CD.ls dl)])[m1.length]? = some (p, .ls dl) := by
    rw [List.getElem?_append_right (Nat.le_refl _), Nat.sub_self]
    rfl
  obtain ⟨ws, h1, h2⟩ := s2.ls hj
  have hc : CdOk K B2 (.ls []) (.lst []) := DqAll.nil
  have s3 := s2.put hj hc
  have t3 := Tr.put s2 hj hc
  have hset : (m1 ++ [(p, CD.ls dl)]).set m1.length (p, .ls []) = m1 ++ [(p, .ls [])] := by
    rw [List.set_append_right _ _ (Nat.le_refl _), Nat.sub_self]
    rfl
  rw [hset] at s3 t3
  have sub : m1.Sublist (m1 ++ [(p, CD.ls [])]) := List.sublist_append_left _ _
  exact ⟨tyv_of (B := B2) h1, p, ws, rfl, rfl, h1, q _ _ _ ((t2.trans t3).sub fun a z => (sub.map _).subset z) (s3.sub sub) .non⟩
/-- list(xs), sorted(xs) as a new cell -/
theorem rcn_listL {xs : List α} : RcN K (rListOf K) [.da (dL f xs)] m (.ls (xs.map f)) m := fun B H vs s dx Q q => by
  obtain ⟨v, rfl, d1⟩ := sda1 dx
  obtain ⟨p, ws, rfl, hp, ha⟩ := lst_of d1
  exact ⟨p, ws, rfl, .inl (SqL.of (s.ext _ _ hp)), fun l hl => q l _ _ (Tr.cell s hl) (s.cell hl ha)⟩
theorem rcn_listC {xs : List α} {l : Addr} (j : Nat) (hj : m[j]? = some (l, .ls (xs.map f))) : RcN K (rListOf K) [.rf l] m (.ls (xs.map f)) m := fun B H vs s dx Q q => by
  obtain ⟨v, rfl, d1⟩ := sda1 dx
  obtain ⟨ws, hp, ha⟩ := s.ls hj
  have e : v = .ref l := d1
  exact ⟨l, ws, by rw [e], .inl (SqL.of hp), fun p hl => q p _ _ (Tr.cell s hl) (s.cell hl ha)⟩
theorem rcn_srt [DecidableEq α] [EncO f] [SrtOk f] {xs : List α} (hd : Enc.dep f ≤ 60) : RcN K (rSrtP K) [.da (dL f xs)] m (.ls ((srt (EncO.lt f) xs).map f)) m := fun B H vs s dx Q q => by
  obtain ⟨v, rfl, d1⟩ := sda1 dx
  obtain ⟨p, ws, rfl, hp, ha⟩ := lst_of d1
  exact rc_srtAux hd (SrtOk.ok xs) s (s.ext _ _ hp) ha Q fun ys p h hp => q p _ _ (Tr.cell s hp) (s.cell hp h)
/-- xs * n -/
def repI (xs : List α) (n : Int) : Option (List α) := if -(2 ^ 63) ≤ n ∧ n < 2 ^ 63 ∧ xs.length * n.toNat ≤ 16000000 then some ((List.replicate n.toNat xs).flatten) else none
theorem dqa_rep {B : Hp} {vs : List V} {dl : List PyData} (h : DqAll B vs dl) : ∀ n : Nat, DqAll B (List.replicate n vs).flatten (List.replicate n dl).flatten
  | 0 => .nil
  | n + 1 => by
    rw [List.replicate_succ, List.replicate_succ, List.flatten_cons, List.flatten_cons]
    exact dqa_app h (dqa_rep h n)
theorem rr_rep {xs ys : List α} {n : Int} (h : repI xs n = some ys) : Rr K rRep (.da (dL f xs)) (.da (dI n)) m (.da (dL f ys)) m := fun B H x y s dx dy Q q => by
  obtain ⟨p, ws, rfl, hp, ha⟩ := lst_of dx
  have h1 := dpa_len ha
  rw [List.length_map] at h1
  unfold repI at h
  split at h
  · rename_i hc
    have e := Option.some.inj h
    subst e
    refine ⟨p, n, ws, rfl, int_of dy, s.ext _ _ hp, hc.1, hc.2.1, by rw [sizeLine_eq, h1]; omega, fun l hl => q _ _ _ (Tr.data s hl) (s.data hl) (Dq.lst upd_same ?_)⟩
    rw [List.map_flatten, List.map_replicate]
    exact dqa_rep (dpa_mono (Ex.new (fresh_b s hl)) ha) _
  · cases h
/-- an expression that gives a truth value and needs no cell but one, which it reads as data -/
theorem ev_look {i j : Nat} {l : Addr} {dl : List PyData} {b : Bool} (hi : ds[i]? = some (.rf l)) (hj : m[j]? = some (l, .ls dl)) (h : Ev K te (ds.set i (.da (.list dl))) [] (.da (.bool b)) []) : Ev K te ds m (.da (.bool b)) m := fun B H σ s st Q q => by
  obtain ⟨vs, h1, h2⟩ := s.ls hj
  have hB : B l = none := s.out (l, .ls dl) (List.mem_of_getElem? hj)
  obtain ⟨o, e, w⟩ := st_get st hi
  obtain ⟨v, rfl, w⟩ := sl_some (s := .rf l) (fun z => nomatch z) w
  have ev : v = .ref l := w
  subst ev
  have ee := Ex.new (o := .lst vs) hB
  have st2 := st_set (K := K) i (st_mono ee st) (s := .da (.list dl)) (o := some (.ref l)) (Dq.lst upd_same (dpa_mono ee h2))
  rw [set_same e] at st2
  have s2 : SOk K (upd B l (.lst vs)) [] H := (s.frz hj h1).sub (List.nil_sublist _)
  refine h _ H σ s2 st2 Q fun v B2 H2 t2 s3 d2 => ?_
  have kp : ∀ a o, H a = some o → H2 a = some o := fun a o => t2.keep a o (fun z => nomatch z)
  refine q v B H2 ⟨Ex.refl _, fun _ _ _ z => z, t2.tp, fun a o _ z => kp a o z, fun _ z => .inl z, t2.grow⟩ ⟨fun a o z => kp a o (s.ext a o z), s.nd, s.out, fun p hp => ?_⟩ ?_
  · obtain ⟨o, g1, g2⟩ := s.cel p hp
    exact ⟨o, kp _ _ g1, g2⟩
  · have d' : Dq B2 v (.bool b) := d2
    cases d'
    exact .bl b
/-- a statement over a dict that is locked the while -/
theorem wp_lockS {Fx0 : Fx} {D : Ends} {tz ts : TS} {ds' : List SD} {l : Addr} (j : Nat) {kvs : List (Key × PyData)} (hj : m[j]? = some (l, .dk kvs))
    (h : ∀ od ws D', (∀ σ H, At Fx0 ds' (m'.set j (l, .lk od ws kvs)) σ H → D'.nx σ H) → Wp Fx0 (tSeq ts tNext) D' ds (m.set j (l, .lk od ws kvs))) (hj' : m'[j]? = some (l, .dk kvs)) (k : Wp Fx0 tz D ds' m') : Wp Fx0 (tSeq (tLock ts) tz) D ds m := fun σ H ⟨B, st, s, t, lo⟩ => by
  obtain ⟨ws, h1, h2⟩ := s.dk' hj
  refine ⟨l, .dK ws, h1, True.intro, fun od => ?_⟩
  have cd : CdOk Fx0.K B (.lk od ws kvs) (.frz od (.dK ws)) := ⟨rfl, rfl, h2⟩
  refine h od ws ⟨fun σ' H' => H' l = some (.frz od (.dK ws)) ∧ tz D σ' (upd H' l (.dK ws)), fun v H' => H' l = some (.frz od (.dK ws)) ∧ D.rt v (upd H' l (.dK ws)), fun σ' H' => H' l = some (.frz od (.dK ws)) ∧ D.bk σ' (upd H' l (.dK ws)), fun σ' H' => H' l = some (.frz od (.dK ws)) ∧ D.ct σ' (upd H' l (.dK ws))⟩ ?_ σ _ ⟨B, st, s.put hj cd, t.trans (Tr.put s hj cd), lo⟩
  rintro σ2 H2 ⟨B2, st2, s2, t2, lo2⟩
  have hl' := (List.getElem?_eq_some_iff.mp hj').1
  have hj2 : (m'.set j (l, CD.lk od ws kvs))[j]? = some (l, .lk od ws kvs) := List.getElem?_set_self hl'
  obtain ⟨g1, g2⟩ := s2.lkd hj2
  have cd2 : CdOk Fx0.K B2 (.dk kvs) (.dK ws) := g2
  have s3 := s2.put hj2 cd2
  have t3 := Tr.put s2 hj2 cd2
  rw [set_back hj'] at s3 t3
  exact ⟨g1, k _ _ ⟨B2, st2, s3, t2.trans t3, lo2⟩⟩
/-- a return of a new list -/
theorem wp_retNew {Fx0 : Fx} {D : Ends} {tz : TS} {cd : CD} {R : SD → M → Prop} {mo : M} (h : EvN Fx0.K te ds m cd m1) (hf : Fin Fx0 D R) (hR : ∀ p, R (.rf p) (mo ++ [(p, cd)])) (hs : mo.Sublist m1) : Wp Fx0 (tSeq (tRet te) tz) D ds m := fun σ H ⟨B, st, s, t0, lo⟩ =>
  h B H σ s st _ fun p B2 H2 t2 s2 => by
    have sub : (mo ++ [(p, cd)]).Sublist (m1 ++ [(p, cd)]) := hs.append (List.Sublist.refl _)
    exact hf _ B2 H2 (.rf p) _ (hR p) ((t0.trans t2).sub fun a z => (sub.map _).subset z) (s2.sub sub) rfl
end
end FC
set_option maxHeartbeats 400000
/-! FL: lists of instances, new instances as receivers, d == {}, cells looked at by the law's own look. -/
namespace FC
open PySem PySem.Spec PyProof.Rows L2 Evl
section
variable {K : PySem.W.Frag} {B H : Hp} {ds : List SD} {m m1 m2 m' mc mc' : M} {α β S A A2 : Type} {f : α → PyData} {te ta tb to ti : TE} {t : TA} {rs : List SD} {c : SD} {F G : Pf} {E : XK} {l : Addr} {d e : PyData}
/-- d == {} -/
def rEqE : R2 := fun x y H Q => ∃ a b ks, x = .ref a ∧ y = .ref b ∧ H a = some (.dK ks) ∧ H b = some (.dK []) ∧ Q (.bl ks.isEmpty) H
theorem op_eqE {X : Cx} (hu : X.A.units < cLine) : OpR X (compareOp .Eq) rEqE := by
  intro pins s σ H x y v u Q I rx ry h
  obtain ⟨a, b, ks, rfl, rfl, ea, eb, q⟩ := h
  cases ks with
  | nil => exact op_eq_dictA hu pins s σ H _ _ v u Q I rx ry ⟨a, b, [], [], rfl, rfl, ea, eb, rfl, (fun _ h => nomatch h), q⟩
  | cons k ks =>
    obtain rfl : v = Value.ref a := rx
    obtain rfl : u = Value.ref b := ry
    obtain ⟨_, ya, va, ra, da⟩ := (show ObjOk X.prog X.w H s.heap a (.dK (k :: ks)) from I.hok a _ ea)
    obtain ⟨_, yb, vb, rb, db⟩ := (show ObjOk X.prog X.w H s.heap b (.dK []) from I.hok b _ eb)
    have h1 : va.length = ks.length + 1 := ra.length.symm
    have h2 : vb.length = 0 := rb.length.symm
    refine PySem.W.keq_eq (knd := mixKind X.prog X.w) (r := true) ya yb da db hu (fun e => by omega) (fin_bl I q ?_)
    have : (va.length == vb.length) = false := by
      rw [h1, h2]
      rfl
    rw [this]
    rfl
theorem ev_eqE (j : Nat) {kvs : List (Str × α)} (ha : Ev K ta ds m (.rf l) m1) (hb : tb = tDNewK) (hj : m1[j]? = some (l, .dk (eK kS f kvs))) : Ev K (tOp rEqE ta tb) ds m (.da (dB kvs.isEmpty)) m1 := fun B H σ s st Q q => by
  subst hb
  exact ha B H σ s st _ fun x B1 H1 t1 s1 d1 => by
    have e : x = .ref l := d1
    subst e
    intro p hp
    obtain ⟨ws, h1, h2⟩ := s1.dk' hj
    refine ⟨l, p, ws, rfl, rfl, by rw [upd_ne (ne_of_none h1 hp)]; exact h1, upd_same, ?_⟩
    have e2 : ws.isEmpty = kvs.isEmpty := by
      have hl := kv_len' h2
      unfold eK at hl
      rw [List.length_map] at hl
      cases ws <;> cases kvs <;> first | rfl | (simp at hl)
    rw [e2]
    exact q _ B1 _ (t1.trans (Tr.ext s1 (Ex.new hp))) (s1.grow (Ex.new hp)) (.bl _)
theorem rc_minC [DecidableEq α] [EncO f] {xs : List α} {x : α} (hd : Enc.dep f ≤ 60) (j : Nat) (hj : m[j]? = some (l, .ls (xs.map f))) (h : minL (EncO.lt f) xs = some x) : Rc K (rMinP K) [.rf l] m (.da (f x)) m := Rc.of fun B H vs s dx Q q => by
  obtain ⟨v, rfl, d1⟩ := sda1 dx
  obtain ⟨ws, hp, ha⟩ := s.ls hj
  have e : v = .ref l := d1
  subst e
  cases xs with
  | nil => cases h
  | cons y ys =>
    refine ⟨l, ws, f y, ys.map f, rfl, SqL.of hp, (dpa_mono s.ext ha).dp, alike_enc (y :: ys), depthAll_le (y :: ys) hd, fun i v h1 h2 => q v ?_⟩
    rw [minD_enc] at h2
    rw [← Option.some.inj h]
    exact dqa_ix ha h1 h2
/-- the law's own look at a cell: read as data by the call alone -/
theorem ev_sameL {n : Nat} {r : Bool} {dl : List PyData} (j : Nat) (h : EvA K t ds m [.rf l, .da e] m1) (hj : m1[j]? = some (l, .ls dl)) (hs : samG n (.list dl) e = some r) : Ev K (tCall (spOf K (pfSame n)) [] E t) ds m (.da (dB r)) m1 := by
  obtain ⟨rfl, h2, rfl⟩ := samG_some hs
  cases n with
  | zero => exact absurd h2.2 (Nat.lt_irrefl _)
  | succ n =>
    intro B H σ s st Q q
    refine h B H σ s st _ fun vs B1 H1 t1 s1 d1 => ?_
    obtain ⟨v, u, rfl, d2, d3⟩ := sda2 d1
    have ev : v = .ref l := d2
    subst ev
    obtain ⟨ws, h3, h4⟩ := s1.ls hj
    have hB : B1 l = none := s1.out (l, .ls dl) (List.mem_of_getElem? hj)
    have ee := Ex.new (o := .lst ws) hB
    have s2 : SOk K (upd B1 l (.lst ws)) [] H1 := (s1.frz hj h3).sub (List.nil_sublist _)
    rw [List.append_nil]
    refine ⟨upd B1 l (.lst ws), [.da (.list dl), .da (.list dl)], [], _, ⟨.list dl, h2.1, rfl, rfl, rfl⟩, s2, ⟨Dq.lst upd_same (dpa_mono ee h4), dp_mono ee d3, True.intro⟩, fun v B2 H2 r m2 hr t2 s3 d4 => ?_⟩
    obtain ⟨rfl, rfl⟩ := hr
    have kp : ∀ a o, H1 a = some o → H2 a = some o := fun a o => t2.keep a o (fun z => nomatch z)
    refine q v B1 H2 (t1.trans ⟨Ex.refl _, fun _ _ _ z => z, t2.tp, fun a o _ z => kp a o z, fun _ z => .inl z, t2.grow⟩) ⟨fun a o z => kp a o (s1.ext a o z), s1.nd, s1.out, fun p hp => ?_⟩ ?_
    · obtain ⟨o, g1, g2⟩ := s1.cel p hp
      exact ⟨o, kp _ _ g1, g2⟩
    · have d' : Dq B2 v (.bool true) := d4
      cases d'
      exact .bl true
/-- a slice as a new list -/
theorem ens_L {xs : List α} {tl th : TO} {lo hi : Option Int} (ha : Ev K ta ds m (.da (dL f xs)) m1) (hl : EvO K tl ds m1 lo m2) (hh : EvO K th ds m2 hi m') : EvN K (tSl (rSlL K) ta tl th) ds m (.ls ((cutI xs lo hi).map f)) m' := fun B H σ s st Q q =>
  ha B H σ s st _ fun x B1 H1 t1 s1 d1 => hl B1 H1 σ s1 (st_mono t1.ex st) _ fun B2 H2 t2 s2 => hh B2 H2 σ s2 (st_mono (t1.ex.trans t2.ex) st) _ fun B3 H3 t3 s3 => by
    obtain ⟨p, vs, rfl, hp, hd⟩ := lst_of (sd_mono (t2.ex.trans t3.ex) d1)
    refine ⟨p, vs, rfl, SqL.of (s3.ext _ _ hp), fun w hw => q w _ _ (((t1.trans t2).trans t3).trans (Tr.cell s3 hw)) (s3.cell hw ?_)⟩
    show DqAll B3 (cutI vs lo hi) ((cutI xs lo hi).map f)
    rw [← cutI_map]
    exact dqa_cut hd lo hi
/-- a list of two new things -/
theorem eg_lst2 {r1 : A → SD} {r2 : A2 → SD} {Good1 : A → M → Prop} {Good2 : A2 → M → Prop} (h1 : EvG K ta ds m r1 Good1 m1) (h2 : ∀ a mN, Good1 a mN → EvG K tb ds (m1 ++ mN) r2 Good2 (m1 ++ mN)) :
    EvG K (tLst (tCons ta (tCons tb tNil))) ds m (fun a : Addr × A × A2 => .rf a.1) (fun a mZ => ∃ mN mM, Good1 a.2.1 mN ∧ Good2 a.2.2 mM ∧ mZ = mN ++ mM ++ [(a.1, .lr [r1 a.2.1, r2 a.2.2])]) m1 := fun B H σ s st Q q =>
  h1 B H σ s st _ fun v a mN B2 H2 hg t2 s2 d2 => h2 a mN hg B2 H2 σ s2 (st_mono t2.ex st) _ fun u b mM B3 H3 hg2 t3 s3 d3 => by
    refine ⟨Nat.le_of_lt (small1000 (by show 2 ≤ 1000; omega)), fun p hp => ?_⟩
    have hc : CdOk K B3 (.lr [r1 a, r2 b]) (.lst [v, u]) := ⟨sd_mono t3.ex d2, d3, True.intro⟩
    have s4 := s3.cell hp hc
    have t4 := Tr.cell (c := .lr [r1 a, r2 b]) (o := .lst [v, u]) s3 hp
    have e : m1 ++ mN ++ mM ++ [(p, CD.lr [r1 a, r2 b])] = m1 ++ (mN ++ mM ++ [(p, .lr [r1 a, r2 b])]) := by rw [List.append_assoc, List.append_assoc, List.append_assoc]
    rw [e] at s4 t4
    exact q (.ref p) (p, a, b) _ B3 _ ⟨mN, mM, hg, hg2, rfl⟩ ((t2.trans t3).trans t4) s4 rfl
/-- a tuple of two new things -/
theorem eg_tup2 {p1 : A → Addr} {p2 : A2 → Addr} {Good1 : A → M → Prop} {Good2 : A2 → M → Prop} (h1 : EvG K ta ds m (fun a => .rf (p1 a)) Good1 m1) (h2 : ∀ a mN, Good1 a mN → EvG K tb ds (m1 ++ mN) (fun a => .rf (p2 a)) Good2 (m1 ++ mN)) :
    EvG K (tTup (tCons ta (tCons tb tNil))) ds m (fun a : A × A2 => .tp [.inr (p1 a.1), .inr (p2 a.2)]) (fun a mZ => ∃ mN mM, Good1 a.1 mN ∧ Good2 a.2 mM ∧ mZ = mN ++ mM) m1 := fun B H σ s st Q q =>
  h1 B H σ s st _ fun v a mN B2 H2 hg t2 s2 d2 => h2 a mN hg B2 H2 σ s2 (st_mono t2.ex st) _ fun u b mM B3 H3 hg2 t3 s3 d3 => by
    refine ⟨Nat.le_of_lt (small1000 (by show 2 ≤ 1000; omega)), fun p hp => ?_⟩
    have e1 : v = .ref (p1 a) := d2
    have e2 : u = .ref (p2 b) := d3
    subst e1 e2
    have s4 := s3.data (o := .tup [.ref (p1 a), .ref (p2 b)]) hp
    have t4 := Tr.data (o := .tup [.ref (p1 a), .ref (p2 b)]) s3 hp
    rw [List.append_assoc] at s4 t4
    have t5 := t2.trans t3
    rw [List.append_assoc] at t5
    exact q (.ref p) (a, b) _ _ _ ⟨mN, mM, hg, hg2, rfl⟩ (t5.trans t4) s4 ⟨p, _, rfl, upd_same, rfl, rfl, True.intro⟩
theorem sda_atI {es : List SD} {vs : List V} {i : Int} {r : SD} (h : SdAll K B es vs) (e : getI es i = some r) : ∃ v, atI vs i = some v ∧ SdOk K B r v := by
  have hl := sda_len h
  unfold getI atI at e
  unfold atI
  rw [hl]
  cases q : ixN es.length i with
  | none => rw [q] at e; cases e
  | some k =>
    rw [q] at e
    exact sda_at h e
theorem rr_ixR {es : List SD} {i : Int} {r : SD} (j : Nat) (hj : m[j]? = some (l, .lr es)) (h : getI es i = some r) : Rr K (rIxL K) (.rf l) (.da (dI i)) m r m := Rr.of fun B H u v s dx dy Q q => by
  obtain ⟨o, h1, c1⟩ := s.at hj
  cases o with
  | lst vs =>
    obtain ⟨w, h3, h4⟩ := sda_atI c1 h
    exact ⟨l, vs, i, w, dx, int_of dy, SqL.of h1, h3, q _ h4⟩
  | _ => exact c1.elim
/-- e.m(..), e a new instance that is needed no more -/
theorem ev_methG {pa : A → Addr} {Good : A → M → Prop} {mt : Str} {C : Addr} {names : List Str} (h0 : EvG K ta ds m (fun a => .rf (pa a)) Good m1) (hob : ∀ a mN, Good a mN → ∃ dx sds rest, mN = (pa a, obj C dx names sds) :: rest ∧ sds.length ≤ names.length) (hm : mt ∉ names)
    (h : ∀ m, EvA K t ds m rs m) (hF : ∀ a mN, Good a mN → ∃ R, G (.rf (pa a) :: rs) mN R ∧ ∀ r m2, R r m2 → r = c ∧ m2 = mN) : Ev K (tMeth C mt (spOf K G) [] E ta t) ds m c m1 := fun B H σ s st Q q =>
  h0 B H σ s st _ fun v a mN B1 H1 hg t1 s1 d1 => by
    have ev : v = .ref (pa a) := d1
    subst ev
    obtain ⟨dx, sds, rest, e, hl⟩ := hob a mN hg
    have hj : (m1 ++ mN)[m1.length]? = some (pa a, obj C dx names sds) := by
      rw [List.getElem?_append_right (Nat.le_refl _), Nat.sub_self, e]
      rfl
    obtain ⟨vs, h1, _, _⟩ := s1.ob hj hl
    refine ⟨pa a, dx, _, rfl, h1, lookup_no (zip_keys hm), h _ B1 H1 σ s1 (st_mono t1.ex st) _ fun us B2 H2 t2 s2 d2 => ?_⟩
    rw [List.append_nil]
    have pm : (mN ++ m1).Perm (m1 ++ mN) := List.perm_append_comm
    have sub : m1.Sublist (m1 ++ mN) := List.sublist_append_left _ _
    exact any_call (vs := .ref (pa a) :: us) s2 pm pm (hF a mN hg) (rs := .rf (pa a) :: rs) ⟨rfl, d2⟩ Q fun v B3 H3 t3 s3 d3 => q v B3 H3 (((t1.trans t2).trans t3).sub fun a z => (sub.map _).subset z) (s3.sub sub) d3
end
theorem split2 {α : Type} {b c : Bool} {x y : Option α} {r : α} (h : cond b x (cond c y none) = some r) : (b = true ∧ x = some r) ∨ (c = true ∧ y = some r) := by
  cases b with
  | true => exact .inl ⟨rfl, h⟩
  | false =>
    cases c with
    | true => exact .inr ⟨rfl, h⟩
    | false => cases h
end FC
set_option maxHeartbeats 400000
/-! FH: lists of lists whose rows change: made, read, stored, walked; slices with a step; cells in another order. -/
namespace FC
open PySem PySem.Spec PyProof.Rows L2 Evl
/-! ### orders -/
theorem permB {α : Type} {l1 l2 : List α} (h : ∀ f : α → Nat, (l1.map f).sum = (l2.map f).sum) : l1.Perm l2 := by
  classical
  rw [List.perm_iff_count]
  intro a
  have h1 := h (fun x => if x = a then 1 else 0)
  have key : ∀ l : List α, (l.map fun x => if x = a then 1 else 0).sum = l.count a := by
    intro l
    induction l with
    | nil => rfl
    | cons x l ih =>
      rw [List.map_cons, List.sum_cons, List.count_cons, ih]
      by_cases e : x = a
      · simp [e]
        omega
      · simp [e]
  rw [key, key] at h1
  exact h1
section
variable {K : PySem.W.Frag} {B H : Hp} {ds : List SD} {m m1 m2 m3 pre mc mc' : M} {α β S : Type} {f : β → PyData} {te ta tb to ti tj tv tx : TE} {t : TA} {r : SD} {wi : TI} {g : TG} {G : M → Prop} {items : List α} {up : α → List SD → List SD} {js : List Nat} {l : Addr} {ps : List Addr} {dss dss' : List (List β)} {F : Fx} {D : Ends} {tz ts : TS} {rs : List SD} {c : SD}
theorem ev_perm (h : Ev K te ds m1 r m2) (p : m1.Perm m) (p2 : m3.Perm m2) : Ev K te ds m r m3 := fun B H σ s st Q q => h B H σ (s.perm p) st Q fun v B2 H2 t2 s2 d2 => q v B2 H2 (t2.perm (fun a => (p.map Prod.fst).mem_iff) (fun a => (p2.map Prod.fst).mem_iff.symm)) (s2.perm p2) d2
theorem wp_perm (p : m1.Perm m) (k : Wp F ts D ds m1) : Wp F ts D ds m := fun σ H ⟨B, st, s, t, lo⟩ => k σ H ⟨B, st, s.perm p, t.perm (fun _ => Iff.rfl) (fun a => (p.map Prod.fst).mem_iff.symm), lo⟩
theorem wp_dropN (hs : m1.Sublist m) (k : Wp F ts D ds m1) : Wp F ts D ds m := fun σ H ⟨B, st, s, t, lo⟩ => k σ H ⟨B, st, s.sub hs, t.sub (fun a z => (hs.map _).subset z), lo⟩
/-! ### nests -/
theorem nest_row (s : SOk K B (pre ++ nest f l ps dss) H) {p : Addr} {xs : List β} (h : (p, xs) ∈ ps.zip dss) : ∃ j : Nat, (pre ++ nest f l ps dss)[j]? = some (p, CD.ls (xs.map f)) := by
  have hlen := nest_len s
  obtain ⟨i, hi⟩ := List.mem_iff_getElem?.mp h
  obtain ⟨h1, h2⟩ := List.getElem?_zip_eq_some.mp hi
  exact ⟨_, nest_at hlen h1 h2⟩
theorem nest_top (s : SOk K B (pre ++ nest f l ps dss) H) : H l = some (.lst (ps.map V.ref)) ∧ ps.length = dss.length := by
  have hlen := nest_len s
  have hj0 : (pre ++ nest f l ps dss)[pre.length]? = some (l, .lr (ps.map SD.rf)) := by
    rw [List.getElem?_append_right (Nat.le_refl _), Nat.sub_self, nest_eq hlen]
    rfl
  obtain ⟨vs, h1, h2⟩ := s.lr hj0
  rw [sda_refs h2] at h1
  exact ⟨h1, hlen⟩
def nget (dss : List (List β)) (i j : Int) : Option β := (getI dss i).bind fun r => getI r j
def nset (dss : List (List β)) (i j : Int) (x : β) : Option (List (List β)) := (ixN dss.length i).bind fun k => (dss[k]?).bind fun r => (setI r j x).bind fun r' => some (dss.set k r')
theorem getI_ix {γ : Type} {xs : List γ} {i : Int} {x : γ} (h : getI xs i = some x) : ∃ k, ixN xs.length i = some k ∧ xs[k]? = some x := by
  unfold getI atI at h
  cases q : ixN xs.length i with
  | none => rw [q] at h; cases h
  | some k => rw [q] at h; exact ⟨k, rfl, h⟩
/-- x[i], a row of a nest: its address, its place -/
theorem row_at {i : Int} {k : Nat} {xs : List β} (s : SOk K B (pre ++ nest f l ps dss) H) (e1 : ixN dss.length i = some k) (e2 : dss[k]? = some xs) : ∃ p, ps[k]? = some p ∧ atI (ps.map V.ref) i = some (.ref p) ∧ (pre ++ nest f l ps dss)[pre.length + (k + 1)]? = some (p, .ls (xs.map f)) := by
  have hlen := nest_len s
  have hk : k < ps.length := by rw [hlen]; exact (List.getElem?_eq_some_iff.mp e2).1
  have hp := List.getElem?_eq_getElem hk
  refine ⟨ps[k], hp, ?_, nest_at hlen hp e2⟩
  unfold atI
  rw [List.length_map, hlen, e1]
  show (ps.map V.ref)[k]? = _
  rw [List.getElem?_map, hp]
  rfl
theorem ev_nget {i j : Int} {x : β} (ho : Ev K to ds m (.rf l) m1) (hi : Ev K ti ds m1 (.da (dI i)) (pre ++ nest f l ps dss)) (hj : Ev K tj ds (pre ++ nest f l ps dss) (.da (dI j)) (pre ++ nest f l ps dss)) (h : nget dss i j = some x) : Ev K (tOp (rIxL K) (tOp (rIxL K) to ti) tj) ds m (.da (f x)) (pre ++ nest f l ps dss) := fun B H σ s st Q q =>
  ho B H σ s st _ fun u B1 H1 t1 s1 d1 => hi B1 H1 σ s1 (st_mono t1.ex st) _ fun y B2 H2 t2 s2 d2 => by
    have eu : u = .ref l := d1
    subst eu
    obtain ⟨xs, e1, e2⟩ := bindS h
    obtain ⟨k, e3, e4⟩ := getI_ix e1
    obtain ⟨p, hp, hat, hjj⟩ := row_at s2 e3 e4
    obtain ⟨h1, _⟩ := nest_top s2
    refine ⟨l, ps.map V.ref, i, .ref p, rfl, int_of d2, SqL.of h1, hat, ?_⟩
    refine hj B2 H2 σ s2 (st_mono (t1.ex.trans t2.ex) st) _ fun z B3 H3 t3 s3 d3 => ?_
    obtain ⟨p', hp', hat', hjj'⟩ := row_at s3 e3 e4
    rw [hp] at hp'
    cases hp'
    exact rr_ixC (f := f) _ hjj' e2 B3 H3 _ _ s3 rfl d3 Q fun v B4 H4 t4 s4 d4 => q v B4 H4 (((t1.trans t2).trans t3).trans t4) s4 d4
theorem wp_nset {i j : Int} {x : β} (hv : Ev F.K tv ds m (.da (f x)) m1) (ho : Ev F.K to ds m1 (.rf l) m2) (hi : Ev F.K ti ds m2 (.da (dI i)) (pre ++ nest f l ps dss)) (hj : Ev F.K tj ds (pre ++ nest f l ps dss) (.da (dI j)) (pre ++ nest f l ps dss)) (h : nset dss i j x = some dss')
    (k : Wp F tz D ds (pre ++ nest f l ps dss')) : Wp F (tSeq (tAsg tv (gSub (tOp (rIxL F.K) to ti) tj rSetL)) tz) D ds m := fun σ H ⟨B, st, s, t, lo⟩ =>
  hv B H σ s st _ fun v B1 H1 t1 s1 d1 => ho B1 H1 σ s1 (st_mono t1.ex st) _ fun o B2 H2 t2 s2 d2 => hi B2 H2 σ s2 (st_mono (t1.ex.trans t2.ex) st) _ fun y B3 H3 t3 s3 d3 => by
    have eo : o = .ref l := d2
    subst eo
    obtain ⟨kk, e3, h⟩ := bindS h
    obtain ⟨xs, e4, h⟩ := bindS h
    obtain ⟨ys, e5, h⟩ := bindS h
    have e6 := Option.some.inj h
    subst e6
    obtain ⟨p, hp, hat, _⟩ := row_at s3 e3 e4
    obtain ⟨h1, _⟩ := nest_top s3
    refine ⟨l, ps.map V.ref, i, .ref p, rfl, int_of d3, SqL.of h1, hat, ?_⟩
    refine hj B3 H3 σ s3 (st_mono ((t1.ex.trans t2.ex).trans t3.ex) st) _ fun z B4 H4 t4 s4 d4 => ?_
    obtain ⟨p', hp', _, hjj⟩ := row_at s4 e3 e4
    rw [hp] at hp'
    cases hp'
    obtain ⟨vs, g1, g2⟩ := s4.ls hjj
    have hl := dpa_len g2
    rw [List.length_map] at hl
    unfold setI at e5
    obtain ⟨jx, e7, e8⟩ := Option.map_eq_some_iff.mp e5
    have hcd : CdOk F.K B4 (.ls (ys.map f)) (.lst (vs.set jx v)) := by
      subst e8
      rw [List.map_set]
      exact dqa_set jx g2 (dp_mono ((t2.ex.trans t3.ex).trans t4.ex) d1)
    refine ⟨p, vs, j, jx, rfl, int_of d4, g1, by rw [hl]; exact e7, ?_⟩
    have s5 := s4.put hjj hcd
    have t5 := Tr.put s4 hjj hcd
    rw [nest_set (nest_len s4) hp] at s5 t5
    exact k σ _ ⟨B4, st_mono (((t1.ex.trans t2.ex).trans t3.ex).trans t4.ex) st, s5, ((((t.trans t1).trans t2).trans t3).trans t4).trans t5, lo.trans (((t1.ex.trans t2.ex).trans t3.ex).trans t4.ex)⟩
/-- x[i][j] += e -/
theorem pget_list {X : Cx} : PGet X (rIxL X.K) := by
  intro pins s σ H x y v u Q I rx ry h
  obtain ⟨p, xs, i, z, rfl, rfl, hq, he, q⟩ := h
  cases rx
  obtain ⟨t, rfl⟩ := ry
  obtain ⟨its, r, pl, hz⟩ := I.list hq
  obtain ⟨j, g1, g2, g3, g4, g5⟩ := atI_get he
  obtain ⟨w, ew, rw'⟩ := r.get g2
  have hl := r.length
  have hn := line63
  by_cases h0 : 0 ≤ i
  · have hj : i.toNat = j := by
      rw [seqIndex_of h0 g5] at g1
      exact Option.some.inj g1
    exact wpAny_getItem_list pl.isList h0 (by omega) (by rw [hj]; simpa using ew) ⟨z, H, I, rw', q⟩
  · have hj : (i + (its.toArray.size : Int)).toNat = j := by
      rw [seqIndex_neg (by omega) g4] at g1
      rw [List.size_toArray, ← hl]
      exact Option.some.inj g1
    exact wpAny_getItem_list_neg pl.isList (by omega) (by rw [List.size_toArray] <;> omega) (by omega) (by rw [hj]; simpa using ew) ⟨z, H, I, rw', q⟩
theorem wp_naug {i j a b : Int} {dn dn' : List (List Int)} {fi : Int → Int → Int} (ho : Ev F.K to ds m (.rf l) m1) (hi : Ev F.K ti ds m1 (.da (dI i)) (pre ++ nest dI l ps dn)) (hj : Ev F.K tj ds (pre ++ nest dI l ps dn) (.da (dI j)) (pre ++ nest dI l ps dn)) (hg : nget dn i j = some a)
    (hv : Ev F.K tv ds (pre ++ nest dI l ps dn) (.da (dI b)) (pre ++ nest dI l ps dn)) (h : nset dn i j (fi a b) = some dn') (k : Wp F tz D ds (pre ++ nest dI l ps dn')) : Wp F (tSeq (tAugS (tOp (rIxL F.K) to ti) tj tv (rIxL F.K) (ipI fi) rSetL) tz) D ds m := fun σ H ⟨B, st, s, t, lo⟩ =>
  ho B H σ s st _ fun o B1 H1 t1 s1 d1 => hi B1 H1 σ s1 (st_mono t1.ex st) _ fun y B2 H2 t2 s2 d2 => by
    have eo : o = .ref l := d1
    subst eo
    obtain ⟨kk, e3, h⟩ := bindS h
    obtain ⟨xs, e4, h⟩ := bindS h
    obtain ⟨ys, e5, h⟩ := bindS h
    have e6 := Option.some.inj h
    subst e6
    obtain ⟨xs', f1, f2⟩ := bindS hg
    obtain ⟨kk', f3, f4⟩ := getI_ix f1
    rw [e3] at f3
    cases f3
    rw [e4] at f4
    cases f4
    obtain ⟨p, hp, hat, _⟩ := row_at s2 e3 e4
    obtain ⟨h1, _⟩ := nest_top s2
    refine ⟨l, ps.map V.ref, i, .ref p, rfl, int_of d2, SqL.of h1, hat, ?_⟩
    refine hj B2 H2 σ s2 (st_mono (t1.ex.trans t2.ex) st) _ fun z B3 H3 t3 s3 d3 => ?_
    obtain ⟨p', hp', _, hjj⟩ := row_at s3 e3 e4
    rw [hp] at hp'
    cases hp'
    refine rr_ixC (f := dI) _ hjj f2 B3 H3 _ _ s3 rfl d3 _ fun old B4 H4 t4 s4 d4 => ?_
    refine hv B4 H4 σ s4 (st_mono (((t1.ex.trans t2.ex).trans t3.ex).trans t4.ex) st) _ fun w B5 H5 t5 s5 d5 => ?_
    refine ⟨a, b, int_of (sd_mono t5.ex d4), int_of d5, ?_⟩
    obtain ⟨p', hp', _, hjj5⟩ := row_at s5 e3 e4
    rw [hp] at hp'
    cases hp'
    obtain ⟨vs, g1, g2⟩ := s5.ls hjj5
    have hl := dpa_len g2
    rw [List.length_map] at hl
    unfold setI at e5
    obtain ⟨jx, e7, e8⟩ := Option.map_eq_some_iff.mp e5
    have hcd : CdOk F.K B5 (.ls (ys.map dI)) (.lst (vs.set jx (.int (fi a b)))) := by
      subst e8
      rw [List.map_set]
      exact dqa_set jx g2 (.int _)
    refine ⟨p, vs, j, jx, rfl, int_of d3, g1, by rw [hl]; exact e7, ?_⟩
    have s6 := s5.put hjj5 hcd
    have t6 := Tr.put s5 hjj5 hcd
    rw [nest_set (nest_len s5) hp] at s6 t6
    exact k σ _ ⟨B5, st_mono ((((t1.ex.trans t2.ex).trans t3.ex).trans t4.ex).trans t5.ex) st, s6, (((((t.trans t1).trans t2).trans t3).trans t4).trans t5).trans t6, lo.trans ((((t1.ex.trans t2.ex).trans t3.ex).trans t4.ex).trans t5.ex)⟩
/-- len(x), len(x[i]) -/
theorem rc_lenN : Rc K (rLenA K) [.rf l] (pre ++ nest f l ps dss) (.da (dI dss.length)) (pre ++ nest f l ps dss) := Rc.of fun B H vs s dx Q q => by
  obtain ⟨v, rfl, d1⟩ := sda1 dx
  have e : v = .ref l := d1
  obtain ⟨h1, h2⟩ := nest_top s
  refine ⟨l, ps.map V.ref, by rw [e], .inl (SqL.of h1), ?_⟩
  rw [List.length_map, h2]
  exact q _ (.int _)
theorem ev_lenRow {i : Int} {xs : List β} (ho : Ev K to ds m (.rf l) m1) (hi : Ev K ti ds m1 (.da (dI i)) (pre ++ nest f l ps dss)) (h : getI dss i = some xs) : Ev K (tCB (rLenA K) (tCons (tOp (rIxL K) to ti) tNil)) ds m (.da (dI xs.length)) (pre ++ nest f l ps dss) := fun B H σ s st Q q =>
  ho B H σ s st _ fun u B1 H1 t1 s1 d1 => hi B1 H1 σ s1 (st_mono t1.ex st) _ fun y B2 H2 t2 s2 d2 => by
    have eu : u = .ref l := d1
    subst eu
    obtain ⟨k, e3, e4⟩ := getI_ix h
    obtain ⟨p, hp, hat, hjj⟩ := row_at s2 e3 e4
    obtain ⟨h1, _⟩ := nest_top s2
    refine ⟨l, ps.map V.ref, i, .ref p, rfl, int_of d2, SqL.of h1, hat, ?_⟩
    obtain ⟨ws, g1, g2⟩ := s2.ls hjj
    refine ⟨p, ws, rfl, .inl (SqL.of g1), ?_⟩
    rw [dpa_len g2, List.length_map]
    exact q _ B2 H2 (t1.trans t2) s2 (.int _)
/-- a row by a name: its length, its items -/
theorem ev_lenR {p : Addr} {xs : List β} {j : Nat} (hj : ds[j]? = some (.rf p)) (h : (p, xs) ∈ ps.zip dss) : Ev K (tCB (rLenA K) (tCons (tVar j) tNil)) ds (pre ++ nest f l ps dss) (.da (dI xs.length)) (pre ++ nest f l ps dss) := fun B H σ s st Q q => by
  obtain ⟨k, hk⟩ := nest_row s h
  exact ev_cb (ea_cons (ev_rf hj) ea_nil) (rc_lenC (f := f) k hk) B H σ s st Q q
theorem ev_getR {p : Addr} {xs : List β} {j : Nat} {i : Int} {x : β} (hj : ds[j]? = some (.rf p)) (h : (p, xs) ∈ ps.zip dss) (hi : Ev K ti ds (pre ++ nest f l ps dss) (.da (dI i)) (pre ++ nest f l ps dss)) (hx : getI xs i = some x) : Ev K (tOp (rIxL K) (tVar j) ti) ds (pre ++ nest f l ps dss) (.da (f x)) (pre ++ nest f l ps dss) := fun B H σ s st Q q => by
  obtain ⟨k, hk⟩ := nest_row s h
  exact ev_op (ev_rf hj) hi (rr_ixC (f := f) k hk hx) B H σ s st Q q
/-- what is walked: a nest -/
theorem src_N {j : Nat} (h : Ev K tx ds m (.rf l) (pre ++ nest f l ps dss)) : Src K (iList K tx) (gName j) ds m (pre ++ nest f l ps dss) (fun m' => ∃ pre c, m' = (pre ++ nest f l ps dss) ++ c) (ps.zip dss) (fun x ds => ds.set j (.rf x.1)) [j] := fun B H σ s st R q => h B H σ s st _ fun v B1 H1 t1 s1 d1 => by
  have e : v = .ref l := d1
  subst e
  obtain ⟨h1, h2⟩ := nest_top s1
  have top : ∀ {H B' m'}, (∃ pre c, m' = (pre ++ nest f l ps dss) ++ c) → SOk K B' m' H → SqL K H l (ps.map V.ref) := fun g s => by
    obtain ⟨pre, c, rfl⟩ := g
    exact SqL.of (nest_top (s.sub (List.sublist_append_left _ _))).1
  refine ⟨l, rfl, ⟨_, SqL.of h1⟩, q _ B1 H1 t1 s1 ⟨fun i H B' m' hi e g s => ?_, fun H B' m' e g s => ⟨_, top g s, by rw [List.length_map, List.length_zip, h2, Nat.min_self]; exact Nat.le_refl _⟩, fun i x v H H' B' m' ds σ hx e g s st hy Q q => ?_⟩⟩
  · rw [List.length_zip, h2, Nat.min_self] at hi
    have hi' : i < (ps.map V.ref).length := by rw [List.length_map, h2]; exact hi
    exact ⟨_, _, top g s, List.getElem?_eq_getElem hi'⟩
  · obtain ⟨rfl, y2⟩ := hy
    have h5 := y2 _ (top g s)
    obtain ⟨g1, _⟩ := List.getElem?_zip_eq_some.mp hx
    rw [List.getElem?_map, g1] at h5
    have e5 := Option.some.inj h5
    subst e5
    exact q B' _ (Tr.refl _ _ _) s (st_set j st (sl_of (s := .rf x.1) rfl)) sets1
theorem src_EN {j k : Nat} (h : EvA K t ds m [.rf l] (pre ++ nest f l ps dss)) : Src K (iEnum K t) (gTup K 2 (gCons (gName j) (gCons (gName k) gNil))) ds m (pre ++ nest f l ps dss) (fun m' => ∃ pre c, m' = (pre ++ nest f l ps dss) ++ c) (enumI (ps.zip dss)) (fun p ds => (ds.set j (.da (dI p.1))).set k (.rf p.2.1)) ([j] ++ [k]) := fun B H σ s st R q => h B H σ s st _ fun vs B1 H1 t1 s1 d1 => by
  obtain ⟨v, rfl, d⟩ := sda1 d1
  have e : v = .ref l := d
  subst e
  obtain ⟨h1, h2⟩ := nest_top s1
  have top : ∀ {H B' m'}, (∃ pre c, m' = (pre ++ nest f l ps dss) ++ c) → SOk K B' m' H → SqL K H l (ps.map V.ref) := fun g s => by
    obtain ⟨pre, c, rfl⟩ := g
    exact SqL.of (nest_top (s.sub (List.sublist_append_left _ _))).1
  refine ⟨l, ps.map V.ref, rfl, SqL.of h1, q _ B1 H1 t1 s1 ⟨fun i H B' m' hi e g s => ?_, fun H B' m' e g s => ⟨_, top g s, ?_⟩, fun i x v H H' B' m' ds σ hx e g s st hy Q q => ?_⟩⟩
  · unfold enumI at hi
    rw [List.length_map, List.length_zipIdx, List.length_zip, h2, Nat.min_self] at hi
    have hi' : i < (ps.map V.ref).length := by rw [List.length_map, h2]; exact hi
    exact ⟨_, _, top g s, List.getElem?_eq_getElem hi'⟩
  · unfold enumI
    rw [List.length_map, List.length_map, List.length_zipIdx, List.length_zip, h2, Nat.min_self]
    exact Nat.le_refl _
  · obtain ⟨T, w, rfl, hT, rfl, y2⟩ := hy
    unfold enumI at hx
    rw [List.getElem?_map, Option.map_eq_some_iff] at hx
    obtain ⟨pr, g1, rfl⟩ := hx
    rw [List.getElem?_zipIdx, Option.map_eq_some_iff] at g1
    obtain ⟨a, g3, rfl⟩ := g1
    obtain ⟨g4, _⟩ := List.getElem?_zip_eq_some.mp g3
    have h7 := y2 _ (top g s)
    rw [List.getElem?_map, g4] at h7
    have e7 := Option.some.inj h7
    subst e7
    have e0 : ((i : Nat) : Int) = ((0 + i : Nat) : Int) := by omega
    refine ⟨T, [_, .ref a.1], rfl, SqT.of upd_same, rfl, _, [.ref a.1], rfl, .ref a.1, [], rfl, rfl, ?_⟩
    refine q (upd B' T _) _ (Tr.data s hT) (s.data hT) ?_ (sets1.trans sets1)
    have ee := Ex.new (o := .tup [V.int (i : Nat), .ref a.1]) (fresh_b s hT)
    refine st_set k (st_set j (st_mono ee st) (sl_of (s := .da (dI ((0 + i : Nat) : Int))) ?_)) (sl_of (s := .rf a.1) rfl)
    rw [← e0]
    exact .int _
theorem zip_mapO {γ : Type} {step : List β → Option γ} {out : List γ} : ∀ {ps : List Addr} {dss : List (List β)}, ps.length = dss.length → mapO step dss = some out → mapO (fun p : Addr × List β => step p.2) (ps.zip dss) = some out
  | [], [], _, h => h
  | [], _ :: _, h, _ => by cases h
  | _ :: _, [], h, _ => by cases h
  | p :: ps, d :: dss, hl, h => by
    obtain ⟨y, h1, h⟩ := bindS h
    obtain ⟨ys, h2, h⟩ := bindS h
    show (step d).bind _ = _
    rw [h1]
    show (mapO _ (ps.zip dss)).bind _ = _
    rw [zip_mapO (Nat.succ.inj hl) h2]
    exact h
end
section
variable {K : PySem.W.Frag} {ds : List SD} {m m1 pre : M} {α β γ S R : Type} {f : β → PyData} {f2 : γ → PyData} {te tx : TE} {t : TA} {l : Addr} {ps : List Addr} {dss : List (List β)} {F : Fx} {D : Ends} {tz tb : TS} {es : List SD}
/-- a comprehension over a nest's rows -/
theorem lc_N {j : Nat} {vs : List Nat} {step : List β → Option γ} {out : List γ} (hx : Ev K tx ds m (.rf l) (pre ++ nest f l ps dss)) (hjs : j ∈ vs) (hn : lenG dss.length = some ()) (h : mapO step dss = some out)
    (body : ∀ p xs y, (p, xs) ∈ ps.zip dss → step xs = some y → Ev K te ((wipeD ds vs).set j (.rf p)) (pre ++ nest f l ps dss) (.da (f2 y)) (pre ++ nest f l ps dss)) :
    ∀ B H σ, SOk K B m H → StOk K B ds σ → ∀ Q : VK, (∀ p B2 H2, Tr B H (keys m) B2 H2 (keys ((pre ++ nest f l ps dss) ++ [(p, .ls (out.map f2))])) → SOk K B2 ((pre ++ nest f l ps dss) ++ [(p, .ls (out.map f2))]) H2 → H p = none → Q (.ref p) H2) → tLc (iList K tx) (gName j) tYes te vs σ H Q := fun B H σ s st Q q => by
  by_cases hl : ps.length = dss.length
  · exact lc_map (f2 := f2) (step := fun p : Addr × List β => step p.2) (src_N hx) (fun k hk => by rw [List.mem_singleton.mp hk]; exact hjs) (fun c => ⟨pre, c, rfl⟩) (by rw [List.length_zip, hl, Nat.min_self]; exact hn) (zip_mapO hl h) (fun p y hp hy => body p.1 p.2 y hp hy) B H σ s st Q q
  · -- the cells do not stand
    exact hx B H σ s st _ fun v B1 H1 t1 s1 d1 => absurd (nest_len s1) hl
theorem zip_forC {step : S → Int × List β → Option (Ctl S R)} {c : Ctl S R} {ps : List Addr} {dss : List (List β)} (hl : ps.length = dss.length) {s : S} (h : forC step s (enumI dss) = some c) : forC (fun s (p : Int × Addr × List β) => step s (p.1, p.2.2)) s (enumI (ps.zip dss)) = some c := by
  have key : ∀ (ps : List Addr) (dss : List (List β)) (k : Nat) (s : S), ps.length = dss.length → forC step s ((dss.zipIdx k).map fun p => ((p.2 : Int), p.1)) = some c → forC (fun s (p : Int × Addr × List β) => step s (p.1, p.2.2)) s (((ps.zip dss).zipIdx k).map fun p => ((p.2 : Int), p.1)) = some c := by
    intro ps
    induction ps with
    | nil =>
      intro dss k s hl h
      cases dss with
      | nil => exact h
      | cons _ _ => cases hl
    | cons p ps ih =>
      intro dss k s hl h
      cases dss with
      | nil => cases hl
      | cons d dss =>
        obtain ⟨c', h1, h2⟩ := bindS h
        show (step s ((k : Int), d)).bind _ = _
        rw [show step s ((k : Int), d) = some c' from h1]
        cases c' with
        | nx s' => exact ih dss (k + 1) s' (Nat.succ.inj hl) h2
        | bk s' => exact h2
        | rt r => exact h2
  exact key ps dss 0 s hl h
theorem zip_forF {step : S → Int × List β → Option S} {sN : S} {ps : List Addr} {dss : List (List β)} (hl : ps.length = dss.length) {s : S} (h : forF step s (enumI dss) = some sN) : forF (fun s (p : Int × Addr × List β) => step s (p.1, p.2.2)) s (enumI (ps.zip dss)) = some sN := by
  have key : ∀ (ps : List Addr) (dss : List (List β)) (k : Nat) (s : S), ps.length = dss.length → forF step s ((dss.zipIdx k).map fun p => ((p.2 : Int), p.1)) = some sN → forF (fun s (p : Int × Addr × List β) => step s (p.1, p.2.2)) s (((ps.zip dss).zipIdx k).map fun p => ((p.2 : Int), p.1)) = some sN := by
    intro ps
    induction ps with
    | nil =>
      intro dss k s hl h
      cases dss with
      | nil => exact h
      | cons _ _ => cases hl
    | cons p ps ih =>
      intro dss k s hl h
      cases dss with
      | nil => cases hl
      | cons d dss =>
        obtain ⟨s', h1, h2⟩ := bindS h
        show (step s ((k : Int), d)).bind _ = _
        rw [show step s ((k : Int), d) = some s' from h1]
        exact ih dss (k + 1) s' (Nat.succ.inj hl) h2
  exact key ps dss 0 s hl h
theorem mem_enumZ {i : Int} {p : Addr} {xs : List β} (h : (i, p, xs) ∈ enumI (ps.zip dss)) : (p, xs) ∈ ps.zip dss := by
  unfold enumI at h
  obtain ⟨q, hq, e⟩ := List.mem_map.mp h
  obtain ⟨q1, q2⟩ := q
  have e2 : q1 = (p, xs) := congrArg Prod.snd e
  rw [← e2]
  exact (List.mem_zipIdx hq).2.2 ▸ List.getElem_mem _
theorem wp_nl (h : ps.length = dss.length → Wp F tb D ds (pre ++ nest f l ps dss)) : Wp F tb D ds (pre ++ nest f l ps dss) := fun σ H ⟨B, st, s, t, lo⟩ => h (nest_len s) σ H ⟨B, st, s, t, lo⟩
/-! ### nests made -/
theorem lcNestG {wi : TI} {g : TG} {G : M → Prop} {items : List α} {up : α → List SD → List SD} {js vs : List Nat} {step : α → Option (List β)} (hs : Src K wi g ds m m1 G items up js) (hjs : ∀ j ∈ js, j ∈ vs) (hG : ∀ c, G (m1 ++ c)) (hn : lenG items.length = some ()) (h : mapO step items = some dss)
    (body : ∀ x y, x ∈ items → step x = some y → ∀ c, EvN K te (up x (wipeD ds vs)) (m1 ++ c) (.ls (y.map f)) (m1 ++ c)) :
    ∀ B H σ, SOk K B m H → StOk K B ds σ → ∀ Q : VK, (∀ l ps B2 H2, Tr B H (keys m) B2 H2 (keys (m1 ++ nest f l ps dss)) → SOk K B2 (m1 ++ nest f l ps dss) H2 → Q (.ref l) H2) → tLc wi g tYes te vs σ H Q := by
  intro B H σ s st Q q
  have hnn := lenG_some hn
  have hdl : dss.length = items.length ∧ ∀ (i : Nat) (x : α), items[i]? = some x → ∃ y, step x = some y ∧ dss[i]? = some y := by
    clear q hs hG body hn hnn
    induction items generalizing dss with
    | nil => cases h; exact ⟨rfl, fun i x hx => by simp at hx⟩
    | cons x xs ih =>
      obtain ⟨y, h1, h⟩ := bindS h
      obtain ⟨ys, h2, h⟩ := bindS h
      cases h
      obtain ⟨g1, g2⟩ := ih h2
      refine ⟨by rw [List.length_cons, List.length_cons, g1], fun i z hz => ?_⟩
      cases i with
      | zero =>
        cases hz
        exact ⟨y, h1, rfl⟩
      | succ i => exact g2 i z hz
  obtain ⟨hdl, hst⟩ := hdl
  refine hs B H σ s st _ fun J B1 H1 t1 s1 T D hD => ?_
  refine ⟨fun i k H' => k = items.length - i ∧ i ≤ items.length ∧ ∃ B' ps, Tr B H (keys m) B' H' (keys (m1 ++ nest f D ps (dss.take i))) ∧ Ex B1 B' ∧ SOk K B' (m1 ++ nest f D ps (dss.take i)) H',
    ⟨items.length, by simp, Nat.zero_le _, B1, [], t1.trans (Tr.cell s1 hD), Ex.refl _, s1.cell hD (show CdOk K B1 (.lr (([] : List Addr).map SD.rf)) (.lst []) from True.intro)⟩, ?_⟩
  rintro i k H' ⟨rfl, hi, B', ps, tr, eB, sk⟩
  have hlen := nest_len sk
  by_cases hlt : i < items.length
  · refine .inr ⟨T.1 i H' B' _ hlt eB (hG _) sk, fun H'' => i + 1 ≤ items.length ∧ ∃ B' ps, Tr B H (keys m) B' H'' (keys (m1 ++ nest f D ps (dss.take (i + 1)))) ∧ Ex B1 B' ∧ SOk K B' (m1 ++ nest f D ps (dss.take (i + 1))) H'',
      fun H'' p => ⟨items.length - (i + 1), by omega, rfl, p⟩, fun x H'' hy => ?_⟩
    have hx : items[i]? = some items[i] := List.getElem?_eq_getElem hlt
    obtain ⟨y, hy1, hy2⟩ := hst i _ hx
    refine T.2.2 i items[i] x H' H'' B' _ (wipeD ds vs) (wipe σ vs) hx eB (hG _) sk (st_wipe (st_mono (t1.ex.trans eB) st) vs) hy _ fun B2 σ2 t2 s2 st2 hset => ⟨wipe_sets hset hjs, ?_⟩
    refine et_yes B2 H'' σ2 s2 st2 _ fun B3 H3 t3 s3 => iteT ?_
    refine body items[i] y (List.getElem_mem hlt) hy1 _ B3 H3 σ2 s3 (st_mono t3.ex st2) _ fun p B4 H4 t4 s4 => ?_
    have hjD : ((m1 ++ nest f D ps (dss.take i)) ++ [(p, CD.ls (y.map f))])[m1.length]? = some (D, .lr (ps.map SD.rf)) := by
      rw [List.append_assoc, List.getElem?_append_right (Nat.le_refl _), Nat.sub_self, nest_eq hlen]
      rfl
    obtain ⟨ws, hw, hwa⟩ := s4.lr hjD
    have hwl : ws.length = ps.length := by rw [sda_refs hwa, List.length_map]
    have hil : (dss.take i).length = i := by rw [List.length_take]; omega
    rw [hil] at hlen
    have hset2 : ((m1 ++ nest f D ps (dss.take i)) ++ [(p, CD.ls (y.map f))]).set m1.length (D, .lr ((ps ++ [p]).map SD.rf)) = m1 ++ nest f D (ps ++ [p]) (dss.take (i + 1)) := by
      have hlt2 : i < dss.length := by omega
      have ey : dss[i] = y := by
        rw [List.getElem?_eq_getElem hlt2] at hy2
        exact Option.some.inj hy2
      rw [List.append_assoc, List.set_append_right _ _ (Nat.le_refl _), Nat.sub_self, nest_eq (by rw [hil]; exact hlen), nest_eq (by rw [List.length_append, List.length_take]; show ps.length + 1 = _; omega)]
      have e : dss.take (i + 1) = dss.take i ++ [y] := by rw [← ey]; exact (List.take_append_getElem hlt2).symm
      rw [e, List.zipWith_append (by rw [hil]; exact hlen)]
      rfl
    have hcd : CdOk K B4 (.lr ((ps ++ [p]).map SD.rf)) (.lst (ws ++ [.ref p])) := by
      rw [List.map_append]
      exact sda_app hwa
    have t5 := Tr.put s4 hjD hcd
    have s5 := s4.put hjD hcd
    rw [hset2] at t5 s5
    exact ⟨ws, hw, by rw [sizeLine_eq]; omega, hlt, B4, ps ++ [p], (((tr.trans t2).trans t3).trans t4).trans t5, ((eB.trans t2.ex).trans t3.ex).trans t4.ex, s5⟩
  · have e : i = items.length := by omega
    subst e
    rw [← hdl, List.take_length] at tr sk
    refine .inl ⟨T.2.1 H' B' _ eB (hG _) sk, q D ps B' H' tr sk⟩
end
/-! ### slices with a step -/
def tSlX (K : PySem.W.Frag) (te : TE) (tl th ts : TO) : TE := fun σ H Q => te σ H fun x H1 => tl σ H1 fun lo H2 => th σ H2 fun hi H3 => ts σ H3 fun k H4 => ∃ a xs, x = .ref a ∧ SqL K H4 a xs ∧ k ≠ some 0 ∧ ∀ p, H4 p = none → Q (.ref p) (upd H4 p (.lst (((sliceRange (sliceBounds lo hi k xs.length).1 (sliceBounds lo hi k xs.length).2.1 (sliceBounds lo hi k xs.length).2.2)).filterMap (xs[·]?))))
theorem vals_pick {vs : List V} {us : List Value} (r : Vals vs us) : ∀ ix : List Nat, Vals (ix.filterMap (vs[·]?)) (ix.filterMap (us[·]?))
  | [] => .nil
  | i :: ix => by
    have ih := vals_pick r ix
    have hl := r.length
    rw [List.filterMap_cons, List.filterMap_cons]
    by_cases h : i < vs.length
    · obtain ⟨w, e, rw'⟩ := r.get (List.getElem?_eq_getElem h)
      rw [List.getElem?_eq_getElem h, e]
      exact .cons rw' ih
    · rw [List.getElem?_eq_none (by omega), List.getElem?_eq_none (by omega)]
      exact ih
theorem pe_sliceX {X : Cx} {e st0 : Expr} {te : TE} {lo hi : Option Expr} {tl th ts : TO} {pos p2 : Pos} (he : PE X e te) (hl : PO X lo tl) (hu : PO X hi th) (hs : PO X (some st0) ts) : PE X (.Subscript e (.Slice lo hi (some st0) p2) pos) (tSlX X.K te tl th ts) := by
  refine ⟨fun pins s σ H Q I h => Subscript_ (thn (he.run pins s σ H _ I h) fun v s1 h1 => ?_)⟩
  obtain ⟨x, H1, I1, r1, q1⟩ := h1
  refine wpAny_Slice (thn (hl.run pins s1 σ H1 _ I1 q1) fun vl s2 h2 => ?_)
  obtain ⟨l, H2, I2, pl, q2⟩ := h2
  refine thn (hu.run pins s2 σ H2 _ I2 q2) fun vu s3 h3 => ?_
  obtain ⟨u, H3, I3, pu, q3⟩ := h3
  refine thn (hs.run pins s3 σ H3 _ I3 q3) fun vs s4 h4 => ?_
  obtain ⟨k, H4, I4, pk, a, xs, ex, hx, hk, q⟩ := h4
  subst ex
  cases r1
  have I5 : Inv X pins σ H4 { s4 with heap := s4.heap.push { cls := .type "slice", data := .fields #[vl, vu, vs] } } := I4.kept (t' := s4.toks) fun b ob z => Heap.get?_push_of_some _ z
  obtain ⟨its, r, ht, hz⟩ := I5.list hx
  have hlen := r.length
  show wpAny (model X.prog X.w) X.A (subscriptTail e (.Slice lo hi (some st0) p2) (.ref a) (.ref s4.heap.objs.size)) (EP X pins σ Q) X.xe { s4 with heap := s4.heap.push { cls := .type "slice", data := .fields #[vl, vu, vs] } }
  refine tail_any (ops := [.ref a, .ref s4.heap.objs.size]) ht.isList.typeIs (PySem.slot_list_getitem.lookup) ?_ (by with_unfolding_all rfl)
  refine wpAny_getItem_list_slice ht.isList (Heap.IsSliceOf.new _ vl vu vs) pl pu pk hk ?_ (by rw [List.size_toArray]; omega)
  have hsz := slicePick_size_le its.toArray l u k
  have e1 : slicePick its.toArray l u k = (((sliceRange (sliceBounds l u k xs.length).1 (sliceBounds l u k xs.length).2.1 (sliceBounds l u k xs.length).2.2)).filterMap (its[·]?)).toArray := by
    unfold slicePick
    rw [List.size_toArray, hlen]
    have e0 : (fun i : Nat => its.toArray[i]?) = fun i => its[i]? := by funext i; exact List.getElem?_toArray
    rw [e0]
  rw [e1] at hsz ⊢
  rw [List.size_toArray, List.size_toArray] at hsz
  have hv := vals_pick r (sliceRange (sliceBounds l u k xs.length).1 (sliceBounds l u k xs.length).2.1 (sliceBounds l u k xs.length).2.2)
  refine ⟨.ref _, _, I5.laid (t' := s4.toks) (o := .lst _) (fun b ob z => Heap.get?_push_of_some _ z) (Nat.le_refl _) ?_, rfl, q _ (I5.hok.fresh (Nat.le_refl _))⟩
  exact ⟨by rw [hv.length]; omega, _, 0, hv, Heap.get?_push_size _ rfl⟩
end FC
namespace FC
open PySem PySem.Spec PyProof.Rows L2 Evl
section
variable {K : PySem.W.Frag} {ds : List SD} {m m1 m2 pre : M} {α β : Type} {f : β → PyData} {te ta tb to : TE} {l p C dx : Addr} {ps : List Addr} {dss : List (List β)} {F : Fx} {D : Ends} {tz : TS} {sds : List SD} {names : List Str}
theorem ev_listR {q0 : Addr} {xs : List β} {j : Nat} (hj : ds[j]? = some (.rf q0)) (h : (q0, xs) ∈ ps.zip dss) : Ev K (tCB (rListOf K) (tCons (tVar j) tNil)) ds (pre ++ nest f l ps dss) (.da (dL f xs)) (pre ++ nest f l ps dss) := fun B H σ s st Q q => by
  obtain ⟨k, hk⟩ := nest_row s h
  exact ev_cb (ea_cons (ev_rf hj) ea_nil) (rc_listC (f := f) k hk) B H σ s st Q q
/-- xs * n as a new list -/
theorem en_rep {xs ys : List β} {n : Int} (ha : Ev K ta ds m (.da (dL f xs)) m1) (hb : Ev K tb ds m1 (.da (dI n)) m2) (h : repI xs n = some ys) : EvN K (tOp rRep ta tb) ds m (.ls (ys.map f)) m2 := fun B H σ s st Q q =>
  ha B H σ s st _ fun x B1 H1 t1 s1 d1 => hb B1 H1 σ s1 (st_mono t1.ex st) _ fun y B2 H2 t2 s2 d2 => by
    obtain ⟨p0, ws, rfl, hp, hd⟩ := lst_of (sd_mono t2.ex d1)
    have h1 := dpa_len hd
    rw [List.length_map] at h1
    unfold repI at h
    split at h
    · rename_i hc
      have e := Option.some.inj h
      subst e
      refine ⟨p0, n, ws, rfl, int_of d2, s2.ext _ _ hp, hc.1, hc.2.1, by rw [sizeLine_eq, h1]; omega, fun l hl => q l _ _ ((t1.trans t2).trans (Tr.cell s2 hl)) (s2.cell hl ?_)⟩
      show DqAll B2 _ _
      rw [List.map_flatten, List.map_replicate]
      exact dqa_rep hd _
    · cases h
/-- o.f = a new nest, a field's first store -/
theorem wp_fld0Nest (j : Nat) {fn : Str} (hc : ∀ B H σ, SOk F.K B m H → StOk F.K B ds σ → ∀ Q : VK, (∀ l ps B2 H2, Tr B H (keys m) B2 H2 (keys (m1 ++ nest f l ps dss)) → SOk F.K B2 (m1 ++ nest f l ps dss) H2 → Q (.ref l) H2) → te σ H Q) (ho : ∀ m, Ev F.K ta ds m (.rf p) m) (hj : m1[j]? = some (p, obj C dx names sds)) (hp : PutAt fn names sds.length) (hn : names.length < 500) (c : Cls F.K C) (n : NoAttr F.K C fn)
    (k : ∀ l ps, Wp F tz D ds ((m1 ++ nest f l ps dss).set j (p, obj C dx names (sds ++ [.rf l])))) : Wp F (tSeq (sFld F.K ta te fn) tz) D ds m := fun σ H ⟨B, st, s, t, lo⟩ =>
  hc B H σ s st _ fun l ps B1 H1 t1 s1 => by
    refine ho _ B1 H1 σ s1 (st_mono t1.ex st) _ fun x B2 H2 t2 s2 d2 => ?_
    have e : x = .ref p := d2
    subst e
    have hlt : j < m1.length := (List.getElem?_eq_some_iff.mp hj).1
    have hj2 : (m1 ++ nest f l ps dss)[j]? = some (p, obj C dx names sds) := by
      rw [List.getElem?_append_left hlt]
      exact hj
    obtain ⟨vs, h1, h3⟩ := new_obj (sd := .rf l) (v := .ref l) s2 hj2 hp rfl
    refine ⟨p, C, dx, _, rfl, h1, c, n, by rw [List.length_zip]; omega, ?_⟩
    exact k l ps σ _ ⟨B2, st_mono (t1.ex.trans t2.ex) st, s2.put hj2 h3, ((t.trans t1).trans t2).trans (Tr.put s2 hj2 h3), lo.trans (t1.ex.trans t2.ex)⟩
/-! ### slices with a step, of data -/
def stpI (xs : List β) (lo hi : Option Int) (k : Int) : Option (List β) := if k = 0 then none else some ((sliceRange (sliceBounds lo hi (some k) xs.length).1 (sliceBounds lo hi (some k) xs.length).2.1 (sliceBounds lo hi (some k) xs.length).2.2).filterMap (xs[·]?))
theorem dqa_pick {B : Hp} {vs : List V} {dl : List PyData} (h : DqAll B vs dl) : ∀ ix : List Nat, DqAll B (ix.filterMap (vs[·]?)) (ix.filterMap (dl[·]?))
  | [] => .nil
  | i :: ix => by
    have ih := dqa_pick h ix
    have hl := dpa_len h
    rw [List.filterMap_cons, List.filterMap_cons]
    by_cases hi : i < dl.length
    · obtain ⟨w, e, d⟩ := dqa_get h (List.getElem?_eq_getElem hi)
      rw [List.getElem?_eq_getElem hi, e]
      exact .cons d ih
    · rw [List.getElem?_eq_none (by omega), List.getElem?_eq_none (by omega)]
      exact ih
theorem map_pick (xs : List β) : ∀ ix : List Nat, (ix.filterMap (xs[·]?)).map f = ix.filterMap ((xs.map f)[·]?)
  | [] => rfl
  | i :: ix => by
    have ih := map_pick xs ix
    rw [List.filterMap_cons, List.filterMap_cons, List.getElem?_map]
    cases xs[i]? with
    | none => exact ih
    | some x => rw [List.map_cons, ih]; rfl
theorem ev_stp {xs ys : List β} {tl th ts : TO} {lo hi : Option Int} {k : Int} {m3 m4 : M} (ha : Ev K ta ds m (.da (dL f xs)) m1) (hl : EvO K tl ds m1 lo m2) (hh : EvO K th ds m2 hi m3) (hs : EvO K ts ds m3 (some k) m4) (h : stpI xs lo hi k = some ys) : Ev K (tSlX K ta tl th ts) ds m (.da (dL f ys)) m4 := fun B H σ s st Q q =>
  ha B H σ s st _ fun x B1 H1 t1 s1 d1 => hl B1 H1 σ s1 (st_mono t1.ex st) _ fun B2 H2 t2 s2 => hh B2 H2 σ s2 (st_mono (t1.ex.trans t2.ex) st) _ fun B3 H3 t3 s3 => hs B3 H3 σ s3 (st_mono ((t1.ex.trans t2.ex).trans t3.ex) st) _ fun B4 H4 t4 s4 => by
    obtain ⟨p0, vs, rfl, hp, hd⟩ := lst_of (sd_mono ((t2.ex.trans t3.ex).trans t4.ex) d1)
    unfold stpI at h
    split at h
    · cases h
    · rename_i hk
      have e := Option.some.inj h
      subst e
      have hlen := dpa_len hd
      rw [List.length_map] at hlen
      refine ⟨p0, vs, rfl, SqL.of (s4.ext _ _ hp), fun z => hk (Option.some.inj z), fun w hw => q _ _ _ ((((t1.trans t2).trans t3).trans t4).trans (Tr.data s4 hw)) (s4.data hw) (Dq.lst upd_same ?_)⟩
      rw [map_pick, hlen]
      exact dqa_pick (dpa_mono (Ex.new (fresh_b s4 hw)) hd) _
end
end FC
set_option maxHeartbeats 400000
/-! FI: a tuple zipped with a list; lists of triples walked; `in range`; options in tuples; new lists from sums. -/
namespace FC
open PySem PySem.Spec PyProof.Rows L2 Evl
/-! ### zip(tuple, list) -/
/-- a tuple at a, a list at b, both as they stand at each turn -/
def ItzX (K : PySem.W.Frag) (a b : Addr) : It where
  go := fun i H => ∃ (xs ys : List V) (x y : V), SqT K H a xs ∧ SqL K H b ys ∧ xs[i]? = some x ∧ ys[i]? = some y
  yld := fun i H v H' => ∃ T x y, v = .ref T ∧ H T = none ∧ H' = upd H T (.tup [x, y]) ∧ (∀ xs, SqT K H a xs → xs[i]? = some x) ∧ ∀ ys, SqL K H b ys → ys[i]? = some y
  stop := fun i H => ∃ xs ys : List V, SqT K H a xs ∧ SqL K H b ys ∧ i = min xs.length ys.length
theorem five {c z t u i j : Addr} (h : c ∈ [z, t, u, i, j]) : c = z ∨ c = t ∨ c = u ∨ c = i ∨ c = j := by simpa using h
theorem tup_apart {h : Heap} {a i : Addr} {k : Nat} {xs : Array Value} (p : h.IsTuple a xs) (j : h.IsTupleIter i a k) : a ≠ i := fun e => by
  obtain ⟨o, g, _, n, d⟩ := p
  obtain ⟨o', g', _, d'⟩ := j
  rw [e, g'] at g
  cases g
  rw [d] at d'
  cases d'
theorem lst_apart {h : Heap} {a i : Addr} {k : Nat} {xs : Array Value} (p : h.IsList a xs) (j : h.IsListIter i a k) : a ≠ i := fun e => by
  obtain ⟨o, g, _, n, d⟩ := p
  obtain ⟨o', g', _, d'⟩ := j
  rw [e, g'] at g
  cases g
  rw [d] at d'
  cases d'
theorem turn_zipX {P : Program} {w : World} {K : PySem.W.Frag} {es : List Expr} {kk : Nat} {tp : Pos} {a b z TI TO i1 i2 : Addr} (D : ZipSep2 z TI TO i1 i2 [i1, a] [i2, b]) :
    Turn P w K (.Tuple es kk tp) (ItzX K a b) [z, TI, TO, i1, i2] z fun i h => IsZip h z TI TO .none ∧ IsTupOf2 h TI (.ref i1) (.ref i2) ∧ (∃ x y, IsTupOf2 h TO x y) ∧ h.IsTupleIter i1 a i ∧ h.IsListIter i2 b i where
  mem := List.mem_cons_self
  obj := fun i h st c hcm => by
    obtain ⟨gz, gI, ⟨x, y, gO⟩, ⟨o1, e1, _, d1⟩, ⟨o2, e2, _, d2⟩⟩ := st
    rcases five hcm with e | e | e | e | e <;> subst e
    · exact ⟨_, gz, fun v q => by cases q⟩
    · exact ⟨_, gI, fun v q => by cases q⟩
    · exact ⟨_, gO, fun v q => by cases q⟩
    · exact ⟨o1, e1, fun v q => by rw [d1] at q; cases q⟩
    · exact ⟨o2, e2, fun v q => by rw [d2] at q; cases q⟩
  keep := fun i h h' st k => by
    obtain ⟨gz, gI, ⟨x, y, gO⟩, j1, j2⟩ := st
    have kk : ∀ c o, c ∈ [z, TI, TO, i1, i2] → h.get? c = some o → h'.get? c = some o := fun c o hcm e => k c hcm o e
    exact ⟨kk z _ (by simp) gz, kk TI _ (by simp) gI, ⟨x, y, kk TO _ (by simp) gO⟩, j1.at fun o q => kk i1 o (by simp) q, j2.at fun o q => kk i2 o (by simp) q⟩
  item := by
    intro X hP hw hK hc i pins s σ H E I hf st hg
    subst hP hw hK
    obtain ⟨gz, gI, ⟨x0, y0, gO⟩, j1, j2⟩ := st
    obtain ⟨xs, ys, x, y, sx, sy, hx, hy⟩ := hg
    obtain ⟨its, rv, p, _⟩ := I.tuple sx
    obtain ⟨its2, rv2, p2, _⟩ := I.list sy
    obtain ⟨u, hu, ru⟩ := rv.get hx
    obtain ⟨u2, hu2, ru2⟩ := rv2.get hy
    have hd := I.ok.hd hc
    have zlt : z < s.heap.objs.size := Heap.lt_size gz
    have n1 : i < its.toArray.size := by rw [List.size_toArray]; exact (List.getElem?_eq_some_iff.mp hu).1
    have n2 : i < its2.toArray.size := by rw [List.size_toArray]; exact (List.getElem?_eq_some_iff.mp hu2).1
    have na : a ≠ i1 := tup_apart p j1
    have nb : b ≠ i2 := lst_apart p2.isList j2
    refine wpAny_pyNext_zipD2_item D (Draws.tuple (show X.A.in1.handled = none from hd) i1 a na its.toArray) (Draws.list (show X.A.in1.handled = none from hd) i2 b nb its2.toArray) gz gI gO ⟨j1, p⟩ ⟨j2, p2.isList⟩ n1 n2 fun v1 v2 h' tk y1 y2 gz' gO' st1 st2 gT hsz hk => ?_
    have e1 : v1 = u := by
      rw [List.getElem?_toArray, hu] at y1
      exact (Option.some.inj y1).symm
    have e2 : v2 = u2 := by
      rw [List.getElem?_toArray, hu2] at y2
      exact (Option.some.inj y2).symm
    subst e1 e2
    refine ⟨_, rfl, wpAny_letOwnedTupleGo_zip (s := { s with heap := h', toks := tk }) gz' fun h2 gz2 sb => ?_⟩
    have T2 : h2.get? s.heap.objs.size = some { cls := .type "tuple", data := .seq #[v1, v2] } := (sb.2 _ (Nat.ne_of_gt zlt)).trans gT
    have ob : ObjOk X.prog X.w (upd H s.heap.objs.size (.tup [x, y])) h2 s.heap.objs.size (.tup [x, y]) := ⟨by show 2 ≤ sizeLine; decide, [v1, v2], .cons ru (.cons ru2 .nil), ⟨_, T2, rfl, _, rfl⟩⟩
    have I2 : Inv X pins σ (upd H s.heap.objs.size (.tup [x, y])) { s with heap := h2, toks := tk } := by
      refine I.turnedNew (ch := [z, TI, TO, i1, i2]) (fun c o hb q => ?_) hf (Nat.le_refl _) ob
      have hb' : c ≠ z ∧ c ≠ TI ∧ c ≠ TO ∧ c ≠ i1 ∧ c ≠ i2 := by simpa using hb
      exact (sb.2 c hb'.1).trans (hk c o hb'.1 hb'.2.2.1 hb'.2.2.2.1 hb'.2.2.2.2 q)
    refine ⟨.ref s.heap.objs.size, _, I2, rfl, ⟨_, x, y, rfl, I.hok.fresh (Nat.le_refl _), rfl, fun l hl => by rw [I.tuple_inj hl sx]; exact hx, fun l hl => by rw [I.list_inj hl sy]; exact hy⟩, ⟨gz2, ?_, ⟨v1, v2, ?_⟩, ?_, ?_⟩, fun c hcm => ?_⟩
    · exact (sb.2 _ D.TIz).trans (hk _ _ D.TIz D.TITO D.TIi1 D.TIi2 gI)
    · exact (sb.2 _ D.TOz).trans gO'
    · exact st1.1.at fun o q => (sb.2 _ D.zi1.symm).trans q
    · exact st2.1.at fun o q => (sb.2 _ D.zi2.symm).trans q
    · have lt : c < s.heap.objs.size := by
        obtain ⟨_, q1, _⟩ := j1
        obtain ⟨_, q2, _⟩ := j2
        rcases five hcm with e | e | e | e | e <;> subst e
        · exact zlt
        · exact Heap.lt_size gI
        · exact Heap.lt_size gO
        · exact Heap.lt_size q1
        · exact Heap.lt_size q2
      rw [upd_ne (Nat.ne_of_lt lt)]
      exact (hf c hcm).1
  done := by
    intro X hP hw hK hc i pins s σ H E I hf st hg
    subst hP hw hK
    obtain ⟨gz, gI, ⟨x0, y0, gO⟩, j1, j2⟩ := st
    obtain ⟨xs, ys, sx, sy, he⟩ := hg
    obtain ⟨its, rv, p, _⟩ := I.tuple sx
    obtain ⟨its2, rv2, p2, _⟩ := I.list sy
    have l1 := rv.length
    have l2 := rv2.length
    have hd := I.ok.hd hc
    have na : a ≠ i1 := tup_apart p j1
    have nb : b ≠ i2 := lst_apart p2.isList j2
    refine wpAny_pyNext_zipD2_end D (Draws.tuple (show X.A.in1.handled = none from hd) i1 a na its.toArray) (Draws.list (show X.A.in1.handled = none from hd) i2 b nb its2.toArray) gz gI gO ⟨j1, p⟩ ⟨j2, p2.isList⟩ (by rw [List.size_toArray]; omega) (by rw [List.size_toArray]; omega) (by rw [List.size_toArray, List.size_toArray]; omega) fun h' tk hk => ⟨rfl, ?_⟩
    refine I.turnedL (ch := [z, TI, TO, i1, i2]) (fun c o hb q => ?_) hf
    have hb' : c ≠ z ∧ c ≠ TI ∧ c ≠ TO ∧ c ≠ i1 ∧ c ≠ i2 := by simpa using hb
    exact hk c o hb'.1 hb'.2.2.1 hb'.2.2.2.1 hb'.2.2.2.2 q
  self := fun A i s Q E st h => wpAny_pyIter_zip st.1 h
def iZipX (K : PySem.W.Frag) (ta : TA) : TI := fun σ H R => ta σ H fun vs H1 => ∃ a b xs ys, vs = [.ref a, .ref b] ∧ SqT K H1 a xs ∧ SqL K H1 b ys ∧ R (ItzX K a b) H1
theorem sep_new {n a b : Nat} (ha : a < n) (hb : b < n) : ZipSep2 (n + 4) (n + 2) (n + 3) n (n + 1) [n, a] [n + 1, b] := by
  have ne : ∀ {x y : Nat}, x < y → (y : Addr) ≠ x := fun h e => Nat.ne_of_gt h e
  have nin : ∀ {c u v : Nat}, u < c → v < c → (c : Addr) ∉ [u, v] := fun h1 h2 h => by
    rcases List.mem_cons.mp h with e | h
    · exact Nat.ne_of_gt h1 e
    · exact Nat.ne_of_gt h2 (List.mem_singleton.mp h)
  refine ⟨(ne (by omega)).symm, (ne (by omega)).symm, (ne (by omega)).symm, ne (by omega), List.mem_cons_self, nin (by omega) (by omega), nin (by omega) (by omega), ne (by omega), List.mem_cons_self, nin (by omega) (by omega), nin (by omega) (by omega), fun h => ?_, nin (by omega) (by omega)⟩
  rcases List.mem_cons.mp h with e | h
  · exact (ne (Nat.lt_succ_self n)).symm e
  · exact ne hb (List.mem_singleton.mp h)
theorem pi_zipX {X : Cx} {e e2 : Expr} {ta : TA} {p pos tp : Pos} {es : List Expr} {kk : Nat} (hg : Gl X "zip") (hm : X.mg "zip" = none) (ha : PA X [e, e2] ta)
    (hs : starEach [e, e2] X.env = (false, eval e X.env) :: starEach [e2] X.env := by rfl) (hl : (backTo pos (starEach [e2] X.env)).any (·.1) = false := by rfl) : PI X (.Tuple es kk tp) (.Call (.Name "zip" p) [e, e2] [] pos) (iZipX X.K ta) := by
  refine ⟨fun pins s σ H R I h => Call_ (ld_blt I hg hm PyProof.Rows.boot_zip (PyProof.Rows.callWith_type1 (thn (ha.run pos pins s σ H _ I h) fun us s1 h1 => ?_) hs hl))⟩
  obtain ⟨vs, H1, I1, r1, a, b, xs, ys, ex, sx, sy, q⟩ := h1
  subst ex
  obtain ⟨v1, v2, rfl, r2, r3⟩ := vals2 r1
  cases r2
  cases r3
  obtain ⟨its, rv, p1, _⟩ := I1.tuple sx
  obtain ⟨its2, rv2, p2, _⟩ := I1.list sy
  obtain ⟨o1, ho1, _⟩ := id p1
  refine zip_begins2 (begins_tuple a its.toArray) (begins_list b its2.toArray) p1 p2.isList fun h' gz gI gO g1 g2 hsz hk => wpAny_pyIter_zip gz ?_
  have I2 : Inv X pins σ H1 { s1 with heap := h' } := I1.kept (t' := s1.toks) hk
  refine ⟨_, [s1.heap.objs.size + 4, s1.heap.objs.size + 2, s1.heap.objs.size + 3, s1.heap.objs.size, s1.heap.objs.size + 1], _, _, H1, rfl, I2, turn_zipX (sep_new (Heap.lt_size ho1) p2.lt), ⟨gz, gI, ⟨_, _, gO⟩, ⟨_, g1, rfl, rfl⟩, ⟨_, g2, rfl, rfl⟩⟩, fun c hcm => ?_, q⟩
  have le : s1.heap.objs.size ≤ c := by
    rcases five hcm with e | e | e | e | e <;> rw [e] <;> first | exact Nat.le_refl _ | exact Nat.le_add_right _ _
  exact I1.fpOk le (I1.hok.fresh le)
theorem zipd {α β : Type} {xs : List α} {ys : List β} {i : Nat} (h : i < (xs.zip ys).length) : i < xs.length ∧ i < ys.length := by
  rw [List.length_zip] at h
  omega
section
variable {K : PySem.W.Frag} {B H : Hp} {ds : List SD} {m m1 m2 m3 : M} {α β γ : Type} {f : α → PyData} {f2 : β → PyData} {f3 : γ → PyData} {te ta tb tl : TE} {t : TA} {F : Fx} {D : Ends} {tz : TS}
theorem src_ZX {xs : List α} {ys : List β} {j k : Nat} (h : EvA K t ds m [.da (dU f xs), .da (dL f2 ys)] m1) : Src K (iZipX K t) (gTup K 2 (gCons (gName j) (gCons (gName k) gNil))) ds m m1 (fun _ => True) (xs.zip ys) (fun p ds => (ds.set j (.da (f p.1))).set k (.da (f2 p.2))) ([j] ++ [k]) := fun B H σ s st R q => h B H σ s st _ fun vs B1 H1 t1 s1 d1 => by
  obtain ⟨v, w, rfl, d, d'⟩ := sda2 d1
  obtain ⟨p, vs, rfl, hp, ha⟩ := tup_of d
  obtain ⟨p2, ws, rfl, hp2, hb⟩ := lst_of d'
  have la := dpa_len ha
  have lb := dpa_len hb
  rw [List.length_map] at la lb
  have T1 : ∀ {H B' m'}, Ex B1 B' → SOk K B' m' H → SqT K H p vs := fun e s => SqT.of (s.ext _ _ (e _ _ hp))
  have T2 : ∀ {H B' m'}, Ex B1 B' → SOk K B' m' H → SqL K H p2 ws := fun e s => SqL.of (s.ext _ _ (e _ _ hp2))
  refine ⟨p, p2, vs, ws, rfl, T1 (Ex.refl _) s1, T2 (Ex.refl _) s1, q _ B1 H1 t1 s1 ⟨fun i H B' m' hi e g s => ?_, fun H B' m' e g s => ⟨vs, ws, T1 e s, T2 e s, by rw [List.length_zip, la, lb]⟩, fun i x v H H' B' m' ds σ hx e g s st hy Q q => ?_⟩⟩
  · obtain ⟨i1, i2⟩ := zipd hi
    rw [← la] at i1
    rw [← lb] at i2
    exact ⟨vs, ws, vs[i], ws[i], T1 e s, T2 e s, List.getElem?_eq_getElem i1, List.getElem?_eq_getElem i2⟩
  · obtain ⟨T, u, u2, rfl, hT, rfl, y1, y2⟩ := hy
    obtain ⟨g1, g2⟩ := zip_some hx
    obtain ⟨w1, c1, c2⟩ := dqa_some ha g1
    obtain ⟨w2, c3, c4⟩ := dqa_some hb g2
    have z1 := (y1 vs (T1 e s)).symm.trans c1
    have z2 := (y2 ws (T2 e s)).symm.trans c3
    cases z1
    cases z2
    exact tg_pair s st (dp_mono e c2) (dp_mono e c4) hT Q q
theorem triple_of {p : α × β × γ} {v : V} (h : SdOk K B (.da (d3 f f2 f3 p)) v) : ∃ q x y z, v = .ref q ∧ B q = some (.tup [x, y, z]) ∧ Dq B x (f p.1) ∧ Dq B y (f2 p.2.1) ∧ Dq B z (f3 p.2.2) := by
  have h' : Dq B v (.tuple [f p.1, f2 p.2.1, f3 p.2.2]) := h
  cases h' with
  | tup h1 h2 =>
    cases h2 with
    | cons a1 h2 =>
      cases h2 with
      | cons a2 h2 =>
        cases h2 with
        | cons a3 h2 =>
          cases h2
          exact ⟨_, _, _, _, rfl, h1, a1, a2, a3⟩
/-- a list of triples walked, taken apart -/
theorem src_L3 {xs : List (α × β × γ)} {i j k : Nat} (h : Ev K tl ds m (.da (dL (d3 f f2 f3) xs)) m1) : Src K (iList K tl) (gTup K 3 (gCons (gName i) (gCons (gName j) (gCons (gName k) gNil)))) ds m m1 (fun _ => True) xs (fun p ds => ((ds.set i (.da (f p.1))).set j (.da (f2 p.2.1))).set k (.da (f3 p.2.2))) ([i] ++ ([j] ++ [k])) := fun B H σ s st R q => h B H σ s st _ fun v B1 H1 t1 s1 d1 => by
  obtain ⟨p, vs, rfl, hp, ha⟩ := lst_of d1
  have la := dpa_len ha
  rw [List.length_map] at la
  have T1 : ∀ {H B' m'}, Ex B1 B' → SOk K B' m' H → SqL K H p vs := fun e s => SqL.of (s.ext _ _ (e _ _ hp))
  refine ⟨p, rfl, ⟨vs, T1 (Ex.refl _) s1⟩, q _ B1 H1 t1 s1 ⟨fun n H B' m' hi e g s => ?_, fun H B' m' e g s => ⟨vs, T1 e s, Nat.le_of_eq la⟩, fun n x v H H' B' m' ds σ hx e g s st hy Q q => ?_⟩⟩
  · have hn : n < vs.length := by omega
    exact ⟨vs, vs[n], T1 e s, List.getElem?_eq_getElem hn⟩
  · obtain ⟨rfl, y2⟩ := hy
    obtain ⟨w, c1, c2⟩ := dqa_some ha hx
    have z1 := (y2 vs (T1 e s)).symm.trans c1
    cases z1
    obtain ⟨T, x1, x2, x3, rfl, b0, b1, b2, b3⟩ := triple_of (K := K) (show SdOk K B1 (.da (d3 f f2 f3 x)) _ from c2)
    refine ⟨T, [x1, x2, x3], rfl, SqT.of (s.ext _ _ (e _ _ b0)), rfl, x1, [x2, x3], rfl, x2, [x3], rfl, x3, [], rfl, rfl, ?_⟩
    exact q B' _ (Tr.refl _ _ _) s (st_set k (st_set j (st_set i st (sl_of (s := .da (f x.1)) (dp_mono e b1))) (sl_of (s := .da (f2 x.2.1)) (dp_mono e b2))) (sl_of (s := .da (f3 x.2.2)) (dp_mono e b3))) (sets1.trans (sets1.trans sets1))
/-! ### i in range(n) -/
theorem cr_range1 {X : Cx} : CallR X (.type "range") (fun vs H Q => ∃ j, vs = [V.int j] ∧ ∀ p, H p = none → Q (.ref p) (upd H p (.rng 0 j))) := by
  intro pins s σ H vs us Q I r h
  obtain ⟨j, rfl, q⟩ := h
  obtain ⟨u1, rfl, rj⟩ := vals1 r
  obtain ⟨t, rfl⟩ := rj
  refine call_range_1 ⟨.ref s.heap.objs.size, upd H s.heap.objs.size (.rng 0 j), I.laid (t' := s.toks + 1 + 1) (fun b o e => Heap.get?_push_of_some _ e) (Nat.le_refl _) ?_, rfl, q _ (I.hok.fresh (Nat.le_refl _))⟩
  exact ⟨_, _, _, Heap.get?_push_size _ rfl⟩
def rInRg : R2 := fun x y H Q => ∃ i a lo hi, x = V.int i ∧ y = V.ref a ∧ H a = some (.rng lo hi) ∧ Q (.bl (decide (lo ≤ i ∧ i < hi))) H
theorem ev_inRg {i n : Int} (ha : Ev K ta ds m (.da (dI i)) m1) (hb : Ev K tb ds m1 (.da (dI n)) m2) : Ev K (tOp rInRg ta (tCB (fun vs H Q => ∃ j, vs = [V.int j] ∧ ∀ p, H p = none → Q (.ref p) (upd H p (.rng 0 j))) (tCons tb tNil))) ds m (.da (dB (decide (0 ≤ i ∧ i < n)))) m2 := fun B H σ s st Q q =>
  ha B H σ s st _ fun x B1 H1 t1 s1 d1 => hb B1 H1 σ s1 (st_mono t1.ex st) _ fun y B2 H2 t2 s2 d2 => by
    refine ⟨n, by rw [int_of d2], fun p hp => ⟨i, p, 0, n, int_of (sd_mono t2.ex d1), rfl, upd_same, ?_⟩⟩
    exact q _ _ _ ((t1.trans t2).trans (Tr.data s2 hp)) (s2.data hp) (.bl _)
/-! ### tuples -/
theorem dU_some (v : List α) : dU (dO f) (v.map some) = dU f v := by
  unfold dU
  rw [List.map_map]
  rfl
theorem ev_someU {v : List α} (h : Ev K te ds m (.da (dU f v)) m1) : Ev K te ds m (.da (dU (dO f) (v.map some))) m1 := by
  rw [dU_some]
  exact h
def rInT (K : PySem.W.Frag) (neg : Bool) : R2 := fun x y H Q => ∃ d ds, Dp K H x d ∧ Dp K H y (.tuple ds) ∧ d.plain = true ∧ PyData.plainAll ds = true ∧ d.depth ≤ 60 ∧ Q (.bl (if neg then !(ds.any fun y => PyData.eqv y d) else ds.any fun y => PyData.eqv y d)) H
theorem op_inT {X : Cx} (hu : X.A.units + 65 < cLine) : OpR X (compareOp .In) (rInT X.K false) := by
  intro pins s σ H x y v u Q I rx ry h
  obtain ⟨d, ds, hd, he, sd, se, hdp, q⟩ := h
  obtain ⟨as, r1⟩ := Dp.reads I d x v hd rx
  obtain ⟨bs, r2⟩ := Dp.reads I (.tuple ds) y u he ry
  refine PySem.SeqAt.in_tuple_data r2 r1 se sd ?_ ⟨.bl _, H, I, rfl, q⟩
  have := Nat.min_le_right (PyData.depthAll ds) d.depth
  omega
theorem rr_inU [DecidableEq α] [e : Enc f] {x : α} {xs : List α} (hd : Enc.dep f ≤ 60) : Rr K (rInT K false) (.da (f x)) (.da (dU f xs)) m (.da (dB (memB x xs))) m := Rr.of fun B H u v s dx dy Q q =>
  ⟨f x, xs.map f, da_dp s dx, da_dp s dy, Enc.plain x, plainAll_enc f xs, Nat.le_trans (Enc.dep_le x) hd, by
    show Q (.bl ((xs.map f).any fun d => PyData.eqv d (f x))) H
    rw [any_enc]
    exact q _ (.bl _)⟩
/-- a chain whose last one may be without an answer -/
theorem ev_chainX {tc : TE} {m' : M} {a b : SD} {r1 r2 : R2} {k k2 : Bool} (ha : Ev K ta ds m a m1) (hb : Ev K tb ds m1 b m2) (hr : Rr K r1 a b m2 (.da (.bool k)) m3)
    (hc : k = true → ∃ c m4, Ev K tc ds m3 c m4 ∧ Rr K r2 b c m4 (.da (.bool k2)) m') (hf : k = false → k2 = false ∧ m' = m3) : Ev K (tChain r1 r2 ta tb tc) ds m (.da (.bool k2)) m' := by
  cases k with
  | true =>
    obtain ⟨c, m4, h1, h2⟩ := hc rfl
    exact ev_chain (c := c) ha hb hr (fun _ => ⟨m4, h1, h2⟩) fun e => by cases e
  | false =>
    obtain ⟨e1, e2⟩ := hf rfl
    subst e1 e2
    exact ev_chain (c := .un) ha hb hr (fun e => by cases e) fun _ => ⟨rfl, rfl⟩
/-- a sum of lists as a new list -/
theorem en_cat {xs ys : List α} (ha : Ev K ta ds m (.da (dL f xs)) m1) (hb : Ev K tb ds m1 (.da (dL f ys)) m2) (hz : lenG (xs.length + ys.length) = some ()) : EvN K (tOp rCat ta tb) ds m (.ls ((xs ++ ys).map f)) m2 := fun B H σ s st Q q =>
  ha B H σ s st _ fun x B1 H1 t1 s1 d1 => hb B1 H1 σ s1 (st_mono t1.ex st) _ fun y B2 H2 t2 s2 d2 => by
    obtain ⟨p, vs, rfl, hp, ca⟩ := lst_of (sd_mono t2.ex d1)
    obtain ⟨p2, ws, rfl, hp2, cb⟩ := lst_of d2
    have l1 := dpa_len ca
    have l2 := dpa_len cb
    have l3 := lenG_some hz
    rw [List.length_map] at l1 l2
    refine ⟨p, p2, vs, ws, rfl, rfl, s2.ext _ _ hp, s2.ext _ _ hp2, by rw [sizeLine_eq]; omega, fun l hl => q l _ _ ((t1.trans t2).trans (Tr.cell s2 hl)) (s2.cell hl ?_)⟩
    show DqAll B2 _ _
    rw [List.map_append]
    exact dqa_app ca cb
end
end FC
set_option maxHeartbeats 400000
/-! FG: plain pieces of the laws: colours, the nearest, dicts, pictures, what is drawn. -/
namespace FC
open PySem PySem.Spec PyProof.Rows L2 Evl
abbrev Col := List Int
/-- a colour of w places -/
def Good (w : Nat) (c : Col) : Prop := c.length = w ∧ ∀ x ∈ c, 0 ≤ x ∧ x < 1000
def ap (a b : Col) : Int := (List.map (fun p : Int × Int => (p.1 - p.2) * (p.1 - p.2)) (List.zip a b)).sum
theorem ap_comm (a b : Col) : ap a b = ap b a := by
  unfold ap
  congr 1
  induction a generalizing b with
  | nil => cases b <;> rfl
  | cons x a ih =>
    cases b with
    | nil => rfl
    | cons y b =>
      rw [List.zip_cons_cons, List.zip_cons_cons, List.map_cons, List.map_cons, ih b]
      congr 1
      show (x - y) * (x - y) = (y - x) * (y - x)
      rw [← Int.neg_mul_neg (x - y) (x - y), Int.neg_sub]
theorem sq_nn (x : Int) : 0 ≤ x * x := by
  rcases Int.le_total 0 x with h | h
  · exact Int.mul_nonneg h h
  · rw [← Int.neg_mul_neg]
    exact Int.mul_nonneg (by omega) (by omega)
theorem ap_nn (a b : Col) : 0 ≤ ap a b := by
  unfold ap
  generalize List.zip a b = l
  induction l with
  | nil => exact Int.le_refl _
  | cons p l ih =>
    rw [List.map_cons, List.sum_cons]
    have := sq_nn (p.1 - p.2)
    omega
theorem ap_self (a : Col) : ap a a = 0 := by
  induction a with
  | nil => rfl
  | cons x a ih =>
    have e : ap (x :: a) (x :: a) = (x - x) * (x - x) + ap a a := rfl
    rw [e, ih, Int.sub_self]
    rfl
theorem ap_zero : ∀ {a b : Col}, a.length = b.length → ap a b = 0 → a = b
  | [], [], _, _ => rfl
  | [], _ :: _, h, _ => by cases h
  | _ :: _, [], h, _ => by cases h
  | x :: a, y :: b, h, e => by
    have e1 : ap (x :: a) (y :: b) = (x - y) * (x - y) + ap a b := rfl
    rw [e1] at e
    have h1 := sq_nn (x - y)
    have h2 := ap_nn a b
    have h3 : (x - y) * (x - y) = 0 := by omega
    have h4 : ap a b = 0 := by omega
    have h5 : x - y = 0 := by
      rcases Int.mul_eq_zero.mp h3 with z | z <;> exact z
    rw [ap_zero (Nat.succ.inj h) h4, show x = y by omega]
def sq (pal : List Col) (c : Col) : List (Int × Int) := List.map (fun p : Int × Col => (ap p.2 c, p.1)) (enumI pal)
theorem mem_enumI {α : Type} {xs : List α} {p : Int × α} (h : p ∈ enumI xs) : 0 ≤ p.1 ∧ xs[p.1.toNat]? = some p.2 := by
  unfold enumI at h
  obtain ⟨q, hq, rfl⟩ := List.mem_map.mp h
  have := List.mem_zipIdx hq
  refine ⟨by omega, ?_⟩
  show xs[((q.2 : Nat) : Int).toNat]? = some q.1
  rw [Int.toNat_natCast]
  have h2 := List.getElem?_eq_getElem (l := xs) (i := q.2) (by omega)
  rw [h2, this.2.2]
  simp
def D (pal : List Col) (c : Col) (j : Int) : Int := ap (pal[j.toNat]?.getD []) c
theorem enumI_eq {α : Type} (d : α) (xs : List α) : enumI xs = (rng 0 xs.length).map fun j => (j, xs[j.toNat]?.getD d) := by
  refine List.ext_getElem? fun i => ?_
  have e1 : (enumI xs)[i]? = (xs.zipIdx.map fun p => ((p.2 : Int), p.1))[i]? := rfl
  rw [e1, List.getElem?_map, List.getElem?_zipIdx, List.getElem?_map]
  unfold rng
  rw [List.getElem?_map]
  by_cases h : i < xs.length
  · have e2 : (List.range ((xs.length : Int) - 0).toNat)[i]? = some i := by
      rw [List.getElem?_range (by omega)]
    rw [e2, List.getElem?_eq_getElem h]
    have e : (0 + (i : Int)).toNat = i := by omega
    show some (((0 + i : Nat) : Int), xs[i]) = some (0 + (i : Int), xs[(0 + (i : Int)).toNat]?.getD d)
    rw [e, List.getElem?_eq_getElem h]
    simp
  · have e2 : (List.range ((xs.length : Int) - 0).toNat)[i]? = none := List.getElem?_eq_none (by rw [List.length_range]; omega)
    rw [e2, List.getElem?_eq_none (by omega)]
    rfl
theorem sq_eq (pal : List Col) (c : Col) : sq pal c = (rng 0 pal.length).map fun j => (D pal c j, j) := by
  unfold sq
  rw [enumI_eq []]
  rw [List.map_map]
  rfl
theorem rng_pw (a b : Int) : (rng a b).Pairwise (· < ·) := by
  unfold rng
  rw [List.pairwise_map]
  exact List.pairwise_lt_range.imp fun h => by omega
def ne (pal : List Col) (c : Col) : Int := ((minL (EncO.lt (dP dI dI)) (sq pal c)).getD (0, 0)).2
theorem FM_map {α β : Type} {c : β → Int} {g : α → β} {l : List α} {m : β} (h : FM c (l.map g) m) : ∃ i, g i = m ∧ FM (fun x => c (g x)) l i := by
  obtain ⟨l1, l2, e, h1, h2⟩ := h
  obtain ⟨k1, k', rfl, e1, e2⟩ := List.map_eq_append_iff.mp e
  obtain ⟨i, k2, rfl, e3, e4⟩ := List.map_eq_cons_iff.mp e2
  refine ⟨i, e3, k1, k2, rfl, fun x hx => ?_, fun x hx => ?_⟩
  · show c (g i) < c (g x)
    rw [e3]
    exact h1 _ (e1 ▸ List.mem_map_of_mem hx)
  · show c (g i) ≤ c (g x)
    rw [e3]
    exact h2 _ (e4 ▸ List.mem_map_of_mem hx)
theorem near {pal : List Col} {c : Col} (hp : pal ≠ []) : minL (EncO.lt (dP dI dI)) (sq pal c) = some (D pal c (ne pal c), ne pal c) ∧ FM (D pal c) (rng 0 pal.length) (ne pal c) := by
  have hq : ∃ x xs, sq pal c = x :: xs := by
    cases e : sq pal c with
    | cons x xs => exact ⟨x, xs, rfl⟩
    | nil =>
      have h := congrArg List.length e
      rw [sq_eq, List.length_map, rng_len] at h
      have : pal.length ≠ 0 := fun z => hp (List.length_eq_zero_iff.mp z)
      have h' : (↑pal.length - 0 : Int).toNat = 0 := h
      omega
  obtain ⟨x, xs, hx⟩ := hq
  have pw : (sq pal c).Pairwise fun p q => p.2 < q.2 := by
    rw [sq_eq, List.pairwise_map]
    exact rng_pw _ _
  obtain ⟨m, h1, h2⟩ := fm_minL (c := Prod.fst) (lt := EncO.lt (dP dI dI)) (x := x) (xs := xs) fun q y r e z hz => by
    rw [hx, e] at pw
    have h3 : z.2 < y.2 := (List.pairwise_append.mp pw).2.2 z hz y List.mem_cons_self
    show ltP ltI ltI y z = _
    unfold ltP ltI
    by_cases e1 : y.1 = z.1
    · rw [if_pos e1]
      simp [e1]
      omega
    · rw [if_neg e1]
  rw [← hx] at h1 h2
  have e : ne pal c = m.2 := by
    unfold ne
    rw [h1]
    rfl
  rw [sq_eq] at h2
  obtain ⟨i, e2, h3⟩ := FM_map h2
  have e3 : m.2 = i := by rw [← e2]
  rw [h1, e, e3]
  exact ⟨by rw [e2], h3⟩
theorem ne_in {pal : List Col} (c : Col) (h0 : pal ≠ []) : 0 ≤ ne pal c ∧ ne pal c < pal.length := by
  have := mem_rng.mp (near (c := c) h0).2.mem
  omega
/-! ### dicts -/
section
variable {κ α : Type} [DecidableEq κ]
theorem dget_app (kvs : List (κ × α)) (k x : κ) (v : α) : dget (kvs ++ [(k, v)]) x = (dget kvs x).or (if k = x then some v else none) := by
  unfold dget
  rw [List.find?_append]
  cases e : kvs.find? fun kv => decide (kv.1 = x) with
  | some p => rfl
  | none =>
    by_cases h : k = x <;> simp [h]
theorem dget_none {kvs : List (κ × α)} {k : κ} (h : dget kvs k = none) : (kvs.any fun kv => decide (kv.1 = k)) = false := by
  unfold dget at h
  rw [Option.map_eq_none_iff, List.find?_eq_none] at h
  rw [List.any_eq_false]
  exact h
theorem dput_new {kvs : List (κ × α)} {k : κ} {v : α} (h : dget kvs k = none) : dput kvs k v = kvs ++ [(k, v)] := by
  unfold dput
  rw [dget_none h]
  rfl
theorem dput_len {kvs : List (κ × α)} {k : κ} {v : α} : (dput kvs k v).length ≤ kvs.length + 1 := by
  unfold dput
  split
  · rw [List.length_map]
    omega
  · rw [List.length_append]
    exact Nat.le_refl _
theorem dput_mem {kvs : List (κ × α)} {k : κ} {v : α} {p : κ × α} (h : p ∈ dput kvs k v) : p ∈ kvs ∨ p = (k, v) := by
  unfold dput at h
  split at h
  · obtain ⟨q, hq, rfl⟩ := List.mem_map.mp h
    by_cases e : q.1 = k
    · rw [if_pos e, e]
      exact .inr rfl
    · rw [if_neg e]
      exact .inl hq
  · rcases List.mem_append.mp h with h | h
    · exact .inl h
    · exact .inr (List.mem_singleton.mp h)
end
abbrev Pic := List (List Col)
def tot (pic : Pic) : Nat := (pic.map List.length).sum
theorem tot_app (a : Pic) (r : List Col) : tot (a ++ [r]) = tot a + r.length := by
  unfold tot
  rw [List.map_append, List.sum_append]
  rfl
theorem tot_split {pic : Pic} {q r : Pic} {x : List Col} (e : pic = q ++ x :: r) : tot q + x.length ≤ tot pic := by
  unfold tot
  rw [e, List.map_append, List.sum_append, List.map_cons, List.sum_cons]
  omega
structure Pal (w : Nat) (pal : List Col) : Prop where
  ok : ∀ a ∈ pal, Good w a
  ne : pal ≠ []
  len : pal.length ≤ 16000000
structure Pict (w : Nat) (pic : Pic) : Prop where
  ok : ∀ r ∈ pic, ∀ c ∈ r, Good w c
  tot : tot pic ≤ 16000000
  len : pic.length ≤ 16000000
def KnownOk (pal : List Col) (kn : List (Col × Int)) : Prop := ∀ k v, dget kn k = some v → v = ne pal k
def lostR (row beside : List Col) : Int := (List.map (fun p : Col × Col => ap p.1 p.2) (List.zip row beside)).sum
def T (pal : List Col) (c : Col) : Col := pal[(ne pal c).toNat]?.getD []
theorem T_mem {w : Nat} {pal : List Col} (hp : Pal w pal) (c : Col) : T pal c ∈ pal := by
  obtain ⟨h1, h2⟩ := ne_in c hp.ne
  unfold T
  rw [List.getElem?_eq_getElem (show (ne pal c).toNat < pal.length by omega)]
  exact List.getElem_mem _
theorem zip_map_self {α β : Type} (g : α → β) : ∀ xs : List α, List.zip xs (xs.map g) = xs.map fun x => (x, g x)
  | [] => rfl
  | x :: xs => by
    rw [List.map_cons, List.zip_cons_cons, zip_map_self g xs]
    rfl
theorem row_len {pic : Pic} (ht : tot pic ≤ 16000000) {r : List Col} (hr : r ∈ pic) : r.length ≤ 16000000 := by
  obtain ⟨a, b, e2⟩ := List.append_of_mem hr
  have := tot_split e2
  omega
def lossR (pal : List Col) (r : List Col) : Int := (r.map fun c => ap c (T pal c)).sum
def loss (pal : List Col) (pic : Pic) : Int := (pic.map (lossR pal)).sum
def wsum (f : Col → Int) (kvs : List (Col × Int)) : Int := (kvs.map fun p => p.2 * f p.1).sum
theorem wsum_app (f : Col → Int) (a : List (Col × Int)) (p : Col × Int) : wsum f (a ++ [p]) = wsum f a + p.2 * f p.1 := by
  unfold wsum
  rw [List.map_append, List.sum_append]
  show _ + (p.2 * f p.1 + 0) = _
  omega
theorem map_off (k : Col) (v : Int) : ∀ kvs : List (Col × Int), k ∉ kvs.map (·.1) → (kvs.map fun kv => if kv.1 = k then (kv.1, v) else kv) = kvs
  | [], _ => rfl
  | p :: kvs, h => by
    rw [List.map_cons, List.mem_cons, not_or] at h
    rw [List.map_cons, if_neg (fun e => h.1 e.symm), map_off k v kvs h.2]
theorem bump {f : Col → Int} {k : Col} : ∀ {kvs : List (Col × Int)}, (kvs.map (·.1)).Nodup → ((dput kvs k ((dget kvs k).getD 0 + 1)).map (·.1)).Nodup ∧ wsum f (dput kvs k ((dget kvs k).getD 0 + 1)) = wsum f kvs + f k := by
  intro kvs hn
  cases e : dget kvs k with
  | none =>
    rw [dput_new e, wsum_app]
    refine ⟨?_, by show _ + (0 + 1) * f k = _; omega⟩
    rw [List.map_append]
    refine List.nodup_append.mpr ⟨hn, List.nodup_cons.mpr ⟨fun h => (nomatch h), List.nodup_nil⟩, fun a ha b hb => ?_⟩
    have hb' : b = k := List.mem_singleton.mp hb
    subst hb'
    rintro rfl
    obtain ⟨p, hp, e2⟩ := List.mem_map.mp ha
    have := dget_none e
    rw [List.any_eq_false] at this
    exact this p hp (decide_eq_true e2)
  | some v =>
    have ha : (kvs.any fun kv => decide (kv.1 = k)) = true := by
      unfold dget at e
      obtain ⟨p, hp, _⟩ := Option.map_eq_some_iff.mp e
      exact List.any_eq_true.mpr ⟨p, List.mem_of_find?_eq_some hp, List.find?_some (p := fun kv : Col × Int => decide (kv.1 = k)) hp⟩
    have hd : dput kvs k (v + 1) = kvs.map fun kv => if kv.1 = k then (kv.1, v + 1) else kv := by
      unfold dput
      rw [if_pos ha]
    show ((dput kvs k (v + 1)).map (·.1)).Nodup ∧ wsum f (dput kvs k (v + 1)) = _
    rw [hd]
    refine ⟨?_, ?_⟩
    · rw [List.map_map]
      have e2 : ((fun x : Col × Int => x.1) ∘ fun kv : Col × Int => if kv.1 = k then (kv.1, v + 1) else kv) = fun x => x.1 := by
        funext kv
        show (if kv.1 = k then (kv.1, v + 1) else kv).1 = kv.1
        split <;> rfl
      rw [e2]
      exact hn
    · clear hd ha
      induction kvs with
      | nil => cases e
      | cons p kvs ih =>
        rw [List.map_cons, List.nodup_cons] at hn
        rw [List.map_cons]
        by_cases h : p.1 = k
        · rw [if_pos h, map_off k _ kvs (h ▸ hn.1)]
          have hv : v = p.2 := by
            have e3 : dget (p :: kvs) k = some p.2 := by
              unfold dget
              rw [List.find?_cons_of_pos (by simpa using h)]
              rfl
            rw [e3] at e
            exact (Option.some.inj e).symm
          show (v + 1) * f p.1 + wsum f kvs = p.2 * f p.1 + wsum f kvs + f k
          rw [hv, h, Int.add_mul, Int.one_mul]
          omega
        · rw [if_neg h]
          have e3 : dget kvs k = some v := by
            unfold dget at e ⊢
            rw [List.find?_cons_of_neg (by simpa using h)] at e
            exact e
          have := ih hn.2 e3
          show p.2 * f p.1 + wsum f (kvs.map _) = p.2 * f p.1 + wsum f kvs + f k
          rw [this]
          omega
def fsum (f : Col → Int) (pic : Pic) : Int := (pic.map fun r => (r.map f).sum).sum
structure Cnt (pic : Pic) (n : Nat) (kvs : List (Col × Int)) : Prop where
  nd : (kvs.map (·.1)).Nodup
  len : kvs.length ≤ n
  val : ∀ p ∈ kvs, 0 ≤ p.2 ∧ p.2 ≤ n
  key : ∀ p ∈ kvs, ∃ r ∈ pic, p.1 ∈ r
  some : 0 < n → kvs ≠ []
theorem dget_mem {kvs : List (Col × Int)} {k : Col} {v : Int} (h : dget kvs k = some v) : (k, v) ∈ kvs := by
  unfold dget at h
  obtain ⟨p, hp, e⟩ := Option.map_eq_some_iff.mp h
  have h1 := List.mem_of_find?_eq_some hp
  have h2 : p.1 = k := of_decide_eq_true (List.find?_some (p := fun kv : Col × Int => decide (kv.1 = k)) hp)
  rw [← h2, ← e]
  exact h1
theorem Cnt.step {pic : Pic} {n : Nat} {kvs : List (Col × Int)} (h : Cnt pic n kvs) {c : Col} (hc : ∃ r ∈ pic, c ∈ r) : Cnt pic (n + 1) (dput kvs c ((dget kvs c).getD 0 + 1)) := by
  refine ⟨(bump (f := fun _ => 0) h.nd).1, Nat.le_trans dput_len (Nat.succ_le_succ h.len), fun p hp => ?_, fun p hp => ?_, fun _ e => ?_⟩
  · rcases dput_mem hp with hp | rfl
    · have := h.val p hp
      omega
    · show 0 ≤ (dget kvs c).getD 0 + 1 ∧ (dget kvs c).getD 0 + 1 ≤ ((n + 1 : Nat) : Int)
      cases e : dget kvs c with
      | none =>
        show 0 ≤ (0 : Int) + 1 ∧ (0 : Int) + 1 ≤ ((n + 1 : Nat) : Int)
        omega
      | some v =>
        have h2 := h.val _ (dget_mem e)
        show 0 ≤ v + 1 ∧ v + 1 ≤ ((n + 1 : Nat) : Int)
        have h3 : 0 ≤ v ∧ v ≤ n := h2
        omega
  · rcases dput_mem hp with hp | rfl
    · exact h.key p hp
    · exact hc
  · unfold dput at e
    split at e
    · have h1 := List.map_eq_nil_iff.mp e
      subst h1
      simp at *
    · simp at e
theorem perm_sum {a b : List Int} (h : a.Perm b) : a.sum = b.sum := by
  induction h with
  | nil => rfl
  | cons x _ ih => rw [List.sum_cons, List.sum_cons, ih]
  | swap x y l =>
    rw [List.sum_cons, List.sum_cons, List.sum_cons, List.sum_cons]
    omega
  | trans _ _ i1 i2 => exact i1.trans i2
def ef (pal : List Col) (c : Col) : Int := ap c (T pal c)
theorem pict1 {w : Nat} {c : Col} (hc : Good w c) : Pict w [[c]] := ⟨fun r hr x hx => by
  rw [List.mem_singleton.mp hr] at hx
  rw [List.mem_singleton.mp hx]
  exact hc, by show 1 + 0 ≤ 16000000; omega, by show 1 ≤ 16000000; omega⟩
theorem T_self {w : Nat} {used : List Col} (hp : Pal w used) {c : Col} (hc : c ∈ used) : T used c = c := by
  have hn := near (pal := used) (c := c) hp.ne
  obtain ⟨i, hi⟩ := List.mem_iff_getElem?.mp hc
  have hl : i < used.length := (List.getElem?_eq_some_iff.mp hi).1
  have h1 := hn.2.le (x := (i : Int)) (mem_rng.mpr ⟨by omega, by omega⟩)
  have e1 : D used c (i : Int) = 0 := by
    unfold D
    rw [Int.toNat_natCast, hi]
    exact ap_self c
  have e2 : D used c (ne used c) = ap (T used c) c := rfl
  have h2 := ap_nn (T used c) c
  rw [e1, e2] at h1
  refine ap_zero ?_ (by omega)
  rw [(hp.ok _ (T_mem hp c)).1, (hp.ok _ hc).1]
def Lk (n : Nat) (left : List Int) : Prop := ∃ a b c : Int, left = [a, b, c] ∧ 0 ≤ c ∧ c ≤ n
theorem Lk.mono {n m : Nat} {l : List Int} (h : Lk n l) (e : n ≤ m) : Lk m l := by
  obtain ⟨a, b, c, h1, h2, h3⟩ := h
  exact ⟨a, b, c, h1, h2, by omega⟩
def Kind (k : Int × Int) : Prop := (1 ≤ k.1 ∧ k.1 ≤ 5) ∧ 1 ≤ k.2 ∧ k.2 ≤ 1000
theorem b2_ix (b : Bool) : 0 ≤ b2 b ∧ b2 b < 2 := by
  cases b <;> decide
theorem tot_le {w : Nat} : ∀ {pic : Pic}, (∀ r ∈ pic, r.length = w) → tot pic = pic.length * w
  | [], _ => by simp [tot]
  | r :: pic, h => by
    have ih := tot_le (pic := pic) fun x hx => h x (List.mem_cons_of_mem _ hx)
    have e : tot (r :: pic) = r.length + tot pic := rfl
    rw [e, ih, h r List.mem_cons_self, List.length_cons, Nat.add_mul]
    omega
/-! ### the least, sorted ones -/
theorem minI_of {xs : List Int} {m : Int} (hm : m ∈ xs) (hl : ∀ x ∈ xs, m ≤ x) : minL ltI xs = some m := by
  cases xs with
  | nil => cases hm
  | cons x xs =>
    obtain ⟨m', h1, h2⟩ := fm_minL (c := id) (lt := ltI) (x := x) (xs := xs) (fun q y r e z hz => rfl)
    rw [h1]
    congr 1
    have a1 : m' ≤ m := h2.le hm
    have a2 : m ≤ m' := hl _ h2.mem
    omega
theorem T_le {pal : List Col} (hp : pal ≠ []) (c : Col) {a : Col} (ha : a ∈ pal) : ap c (T pal c) ≤ ap c a := by
  obtain ⟨i, hi⟩ := List.mem_iff_getElem?.mp ha
  have hl : i < pal.length := (List.getElem?_eq_some_iff.mp hi).1
  have h1 := (near (pal := pal) (c := c) hp).2.le (x := (i : Int)) (mem_rng.mpr ⟨by omega, by omega⟩)
  have e1 : D pal c (i : Int) = ap a c := by
    unfold D
    rw [Int.toNat_natCast, hi]
    rfl
  have e2 : D pal c (ne pal c) = ap (T pal c) c := rfl
  rw [e1, e2, ap_comm a c, ap_comm (T pal c) c] at h1
  exact h1
section
variable {α : Type} {lt : α → α → Bool}
theorem fold_least [T : Tot lt] : ∀ (xs : List α) (x : α), (xs.foldl (fun a y => if lt y a = true then y else a) x) ∈ x :: xs ∧ ∀ y ∈ x :: xs, lt y (xs.foldl (fun a y => if lt y a = true then y else a) x) = false
  | [], x => ⟨List.mem_cons_self, fun y hy => by rw [List.mem_singleton.mp hy]; exact T.irr _⟩
  | y :: xs, x => by
    rw [List.foldl_cons]
    obtain ⟨h1, h2⟩ := fold_least xs (if lt y x = true then y else x)
    by_cases h : lt y x = true
    · rw [if_pos h] at h1 h2 ⊢
      refine ⟨List.mem_cons_of_mem _ h1, fun z hz => ?_⟩
      rcases List.mem_cons.mp hz with rfl | hz
      · exact T.ntr (h2 y List.mem_cons_self) (T.asym h)
      · exact h2 z hz
    · rw [if_neg h] at h1 h2 ⊢
      refine ⟨?_, fun z hz => ?_⟩
      · rcases List.mem_cons.mp h1 with e | h1
        · rw [e]; exact List.mem_cons_self
        · exact List.mem_cons_of_mem _ (List.mem_cons_of_mem _ h1)
      · rcases List.mem_cons.mp hz with rfl | hz
        · exact h2 z List.mem_cons_self
        · rcases List.mem_cons.mp hz with rfl | hz
          · exact T.ntr (h2 x List.mem_cons_self) (by simpa using h)
          · exact h2 z (List.mem_cons_of_mem _ hz)
theorem srt_nil : srt lt ([] : List α) = [] := List.mergeSort_nil
theorem minL_head [T : Tot lt] (xs : List α) : minL lt xs = (srt lt xs).head? := by
  cases xs with
  | nil =>
    unfold srt
    rw [List.mergeSort_nil]
    rfl
  | cons x xs =>
    obtain ⟨h1, h2⟩ := fold_least (lt := lt) xs x
    have pw := srt_pw (lt := lt) (x :: xs)
    have pm := srt_perm (lt := lt) (x :: xs)
    show some (xs.foldl (fun a y => if lt y a = true then y else a) x) = _
    generalize (xs.foldl (fun a y => if lt y a = true then y else a) x) = r at h1 h2
    cases e : srt lt (x :: xs) with
    | nil =>
      rw [e] at pm
      have := pm.length_eq
      cases this
    | cons h t =>
      rw [e] at pm pw
      have m1 : h ∈ x :: xs := pm.mem_iff.mp List.mem_cons_self
      have m2 : r ∈ h :: t := pm.mem_iff.mpr h1
      have l1 : lt r h = false := by
        rcases List.mem_cons.mp m2 with e | m2
        · rw [e]; exact T.irr _
        · exact (List.pairwise_cons.mp pw).1 r m2
      exact congrArg some (T.tri r h l1 (h2 h m1))
theorem mapS_const {S β : Type} {step : S → α → Option (β × S)} {s : S} {b : β} : ∀ {xs : List α}, (∀ x ∈ xs, step s x = some (b, s)) → mapS step s xs = some (xs.map fun _ => b, s)
  | [], _ => rfl
  | x :: xs, h => by
    show (step s x).bind _ = _
    rw [h x List.mem_cons_self]
    show (mapS step s xs).bind _ = _
    rw [mapS_const fun y hy => h y (List.mem_cons_of_mem _ hy)]
    rfl
end
section
variable {κ α : Type} [DecidableEq κ]
theorem dget_of_mem : ∀ {kvs : List (κ × α)} {p : κ × α}, (kvs.map (·.1)).Nodup → p ∈ kvs → dget kvs p.1 = some p.2
  | q :: kvs, p, hn, hp => by
    rw [List.map_cons, List.nodup_cons] at hn
    unfold dget
    rcases List.mem_cons.mp hp with rfl | hp
    · rw [List.find?_cons_of_pos (by simp)]
      rfl
    · have hne : q.1 ≠ p.1 := fun e => hn.1 (e ▸ List.mem_map_of_mem hp)
      rw [List.find?_cons_of_neg (by simpa using hne)]
      exact dget_of_mem hn.2 hp
theorem dget_memG {kvs : List (κ × α)} {k : κ} {v : α} (h : dget kvs k = some v) : (k, v) ∈ kvs := by
  unfold dget at h
  obtain ⟨p, hp, e⟩ := Option.map_eq_some_iff.mp h
  have h1 := List.mem_of_find?_eq_some hp
  have h2 : p.1 = k := of_decide_eq_true (List.find?_some (p := fun kv : κ × α => decide (kv.1 = k)) hp)
  rw [← h2, ← e]
  exact h1
theorem dget_not {kvs : List (κ × α)} {k : κ} (h : ∀ p ∈ kvs, p.1 ≠ k) : dget kvs k = none := by
  cases e : dget kvs k with
  | none => rfl
  | some v => exact absurd rfl (h _ (dget_memG e))
theorem dget_key {kvs : List (κ × α)} {k : κ} (h : dget kvs k = none) : k ∉ kvs.map (·.1) := fun hk => by
  obtain ⟨p, hp, e⟩ := List.mem_map.mp hk
  have := dget_none h
  rw [List.any_eq_false] at this
  exact this p hp (decide_eq_true e)
theorem dget_drop (kvs : List (κ × α)) (k : κ) : dget (ddrop kvs k) k = none := dget_not fun p hp => by
  unfold ddrop at hp
  have := (List.mem_filter.mp hp).2
  simpa using this
theorem mem_drop {kvs : List (κ × α)} {k : κ} {p : κ × α} (h : p ∈ ddrop kvs k) : p ∈ kvs := (List.mem_filter.mp h).1
theorem drop_len (kvs : List (κ × α)) (k : κ) : (ddrop kvs k).length ≤ kvs.length := List.length_filter_le _ _
theorem drop_nd {kvs : List (κ × α)} {k : κ} (h : (kvs.map (·.1)).Nodup) : ((ddrop kvs k).map (·.1)).Nodup := h.sublist ((List.filter_sublist).map _)
theorem new_nd {kvs : List (κ × α)} {k : κ} {v : α} (h : (kvs.map (·.1)).Nodup) (hk : dget kvs k = none) : ((kvs ++ [(k, v)]).map (·.1)).Nodup := by
  rw [List.map_append]
  refine List.nodup_append.mpr ⟨h, List.nodup_cons.mpr ⟨fun h => (nomatch h), List.nodup_nil⟩, fun a ha b hb => ?_⟩
  have hb' : b = k := List.mem_singleton.mp hb
  subst hb'
  rintro rfl
  exact dget_key hk ha
theorem dget_new {kvs : List (κ × α)} {k : κ} {v : α} (hk : dget kvs k = none) : dget (dput kvs k v) k = some v := by
  rw [dput_new hk, dget_app, hk, if_pos rfl]
  rfl
end
/-! ### alike -/
theorem sam_eq {n : Nat} {d : PyData} (h : SamOk n d) : samG (n + 1) d d = some true := by
  unfold samG
  rw [if_pos ⟨rfl, h, Nat.succ_pos n⟩]
theorem sam_none (n : Nat) : SamOk n .none := by cases n <;> exact True.intro
theorem sam_bool (n : Nat) (b : Bool) : SamOk n (.bool b) := by cases n <;> exact True.intro
theorem sam_int (n : Nat) (i : Int) : SamOk n (.int i) := by cases n <;> exact True.intro
theorem sam_str (n : Nat) (x : Str) : SamOk n (.str x) := by cases n <;> exact True.intro
theorem sam_list {n : Nat} {xs : List PyData} (h : xs.length ≤ 16000000) (hx : ∀ x ∈ xs, SamOk n x) : SamOk (n + 1) (.list xs) := ⟨h, hx⟩
theorem sam_tup {n : Nat} {xs : List PyData} (h : xs.length ≤ 16000000) (hx : ∀ x ∈ xs, SamOk n x) : SamOk (n + 1) (.tuple xs) := ⟨h, hx⟩
theorem sam_dL {α : Type} {f : α → PyData} {n : Nat} {xs : List α} (h : xs.length ≤ 16000000) (hx : ∀ x ∈ xs, SamOk n (f x)) : SamOk (n + 1) (dL f xs) := sam_list (by rw [List.length_map]; exact h) fun x hx' => by
  obtain ⟨y, hy, rfl⟩ := List.mem_map.mp hx'
  exact hx y hy
theorem sam_dU {α : Type} {f : α → PyData} {n : Nat} {xs : List α} (h : xs.length ≤ 16000000) (hx : ∀ x ∈ xs, SamOk n (f x)) : SamOk (n + 1) (dU f xs) := sam_tup (by rw [List.length_map]; exact h) fun x hx' => by
  obtain ⟨y, hy, rfl⟩ := List.mem_map.mp hx'
  exact hx y hy
theorem sam_dP {α β : Type} {f : α → PyData} {g : β → PyData} {n : Nat} {p : α × β} (h1 : SamOk n (f p.1)) (h2 : SamOk n (g p.2)) : SamOk (n + 1) (dP f g p) := sam_tup (show 2 ≤ 16000000 by omega) fun x hx => by
  rcases List.mem_cons.mp hx with rfl | hx
  · exact h1
  · rw [List.mem_singleton.mp hx]
    exact h2
theorem sam_dO {α : Type} {f : α → PyData} {n : Nat} {o : Option α} (h : ∀ x, o = some x → SamOk n (f x)) : SamOk n (dO f o) := by
  cases o with
  | none => exact sam_none n
  | some x => exact h x rfl
theorem sam_pal {n w : Nat} {pal : List Col} (hw : w ≤ 16000000) (h : Pal w pal) : SamOk (n + 2) (dL (dU dI) pal) := sam_dL h.len fun c hc => sam_dU (by rw [(h.ok c hc).1]; exact hw) fun i _ => sam_int n i
end FC
set_option maxHeartbeats 400000
/-! FM: masks, the least costs by how many are left. Plain Lean. -/
namespace FC
open PySem PySem.Spec PyProof.Rows L2 Evl
theorem filO_of {α β : Type} {test : α → Option Bool} {step : α → Option β} {t : α → Bool} {g : α → β} : ∀ {xs : List α}, (∀ x ∈ xs, test x = some (t x)) → (∀ x ∈ xs, t x = true → step x = some (g x)) → filO test step xs = some ((xs.filter t).map g)
  | [], _, _ => rfl
  | x :: xs, h1, h2 => by
    show (test x).bind _ = _
    rw [h1 x List.mem_cons_self]
    show cond (t x) _ _ = _
    have ih := filO_of (test := test) (step := step) (t := t) (g := g) (xs := xs) (fun y hy => h1 y (List.mem_cons_of_mem _ hy)) fun y hy => h2 y (List.mem_cons_of_mem _ hy)
    cases e : t x with
    | true =>
      show (step x).bind _ = _
      rw [h2 x List.mem_cons_self e]
      show (filO test step xs).bind _ = _
      rw [ih, List.filter_cons_of_pos e]
      rfl
    | false =>
      show filO test step xs = _
      rw [ih, List.filter_cons_of_neg (by rw [e]; decide)]
def bits (m k : Nat) : Nat := ((List.range m).filter fun j => k.testBit j).length
theorem bits_succ (m k : Nat) : bits (m + 1) k = k % 2 + bits m (k / 2) := by
  unfold bits
  rw [List.range_succ_eq_map, List.filter_cons]
  have e2 : (((List.range m).map Nat.succ).filter fun j => k.testBit j).length = ((List.range m).filter fun j => (k / 2).testBit j).length := by
    rw [List.filter_map, List.length_map]
    congr 1
    refine List.filter_congr fun j _ => ?_
    exact Nat.testBit_succ k j
  have e0 : k.testBit 0 = decide (k % 2 = 1) := by rw [Nat.testBit_eq_decide_div_mod_eq, Nat.pow_zero, Nat.div_one]
  rw [e0]
  by_cases h : k % 2 = 1
  · rw [if_pos (decide_eq_true h), List.length_cons, e2]
    omega
  · rw [if_neg (by simpa using h), e2]
    omega
theorem bits_le (m k : Nat) : bits m k ≤ m := by
  unfold bits
  have := List.length_filter_le (fun j => k.testBit j) (List.range m)
  rw [List.length_range] at this
  exact this
theorem bits_zero : ∀ m : Nat, bits m 0 = 0 := fun m => by
  unfold bits
  rw [List.length_eq_zero_iff, List.filter_eq_nil_iff]
  intro j _
  rw [Nat.zero_testBit]
  decide
theorem bit_and {k : Nat} {j : Nat} : Builtin.bitAnd ((k : Int) / 2 ^ j) 1 = if k.testBit j = true then 1 else 0 := by
  have h := Bits.bitAnd_mask (x := (k : Int) / 2 ^ j) 1 (Int.ediv_nonneg (by omega) (by exact Int.le_of_lt (Int.pow_pos (by decide))))
  have e1 : (2 : Int) ^ 1 - 1 = 1 := by decide
  rw [e1] at h
  rw [h]
  have e2 : (k : Int) / 2 ^ j = ((k / 2 ^ j : Nat) : Int) := by
    rw [Int.natCast_ediv, Int.natCast_pow]
    rfl
  rw [e2, Nat.testBit_eq_decide_div_mod_eq]
  by_cases hk : k / 2 ^ j % 2 = 1
  · rw [if_pos (decide_eq_true hk)]
    omega
  · rw [if_neg (by simpa using hk)]
    omega
theorem bit_or (k j : Nat) : Builtin.bitOr (k : Int) (1 * 2 ^ j) = ((k ||| 2 ^ j : Nat) : Int) := by
  have e : (1 : Int) * 2 ^ j = ((2 ^ j : Nat) : Int) := by rw [Int.one_mul, Int.natCast_pow]; rfl
  rw [e, Bits.bitOr_pp (Int.natCast_nonneg _) (Int.natCast_nonneg _), Int.toNat_natCast, Int.toNat_natCast]
theorem shl_one (m : Nat) (h : m ≤ 1000) : shlG 1 (m : Int) = some ((2 ^ m : Nat) : Int) := by
  unfold shlG
  rw [if_pos ⟨by omega, by omega, by decide⟩]
  congr 1
  rw [Int.one_mul, Int.toNat_natCast, Int.natCast_pow]
  rfl
theorem shl_j {j : Int} (h0 : 0 ≤ j) (h : j ≤ 1000) : shlG 1 j = some (1 * 2 ^ j.toNat) := by
  unfold shlG
  rw [if_pos ⟨h0, by omega, by decide⟩]
theorem shr_j {i j : Int} (h0 : 0 ≤ j) : shrG i j = some (i / 2 ^ j.toNat) := by
  unfold shrG
  rw [if_pos h0]
theorem pow_le20 {m : Nat} (h : m ≤ 20) : 2 ^ m ≤ 1048576 := Nat.le_trans (Nat.pow_le_pow_right (by omega) h) (by decide)
/-! ### the costs -/
def frees (m k : Nat) : List Int := (rng 0 m).filter fun j => !k.testBit j.toNat
theorem mem_frees {m k : Nat} {j : Int} : j ∈ frees m k ↔ (0 ≤ j ∧ j < m) ∧ k.testBit j.toNat = false := by
  unfold frees
  rw [List.mem_filter, mem_rng, Bool.not_eq_true']
theorem frees_len (m k : Nat) : (frees m k).length ≤ m := by
  unfold frees
  have := List.length_filter_le (fun j : Int => !k.testBit j.toNat) (rng 0 m)
  rw [rng_len] at this
  omega
theorem or_lt {m k : Nat} {j : Int} (hk : k < 2 ^ m) (hj : j < m) (h0 : 0 ≤ j) : k ||| 2 ^ j.toNat < 2 ^ m := Nat.or_lt_two_pow hk (Nat.pow_lt_pow_right (by omega) (by omega))
theorem bits_rng (m k : Nat) : ((rng 0 m).filter fun j => k.testBit j.toNat).length = bits m k := by
  unfold rng bits
  rw [List.filter_map, List.length_map]
  have e : ((m : Int) - 0).toNat = m := by omega
  rw [e]
  congr 1
  refine List.filter_congr fun j _ => ?_
  show k.testBit (0 + (j : Int)).toNat = k.testBit j
  congr 1
  omega
def leastOf (l : List Int) : Int := (minL ltI l).getD 0
theorem min_leastOf {l : List Int} (h : l ≠ []) : minL ltI l = some (leastOf l) := by
  cases l with
  | nil => exact absurd rfl h
  | cons x xs => rfl
def opts (row : List Int) (beh : Nat → Int) (price : Int) (m k : Nat) : List Int := (frees m k).map (fun j => (row[j.toNat]?.getD 0) + beh (k ||| 2 ^ j.toNat)) ++ [price + beh k]
theorem opts_ne (row : List Int) (beh : Nat → Int) (price : Int) (m k : Nat) : opts row beh price m k ≠ [] := by
  unfold opts
  simp
/-- the least cost of what is left: the rows of squares, the mask of what is taken -/
def V (price : Int) (m : Nat) : List (List Int) → Nat → Int
  | [], k => price * ((m : Int) - (bits m k : Int))
  | row :: rest, k => leastOf (opts row (V price m rest) price m k)
def tabR (m : Nat) (f : Nat → Int) : List Int := (List.range (2 ^ m)).map f
theorem tab_len (m : Nat) (f : Nat → Int) : (tabR m f).length = 2 ^ m := by
  unfold tabR
  rw [List.length_map, List.length_range]
theorem tab_get {m k : Nat} (f : Nat → Int) (h : k < 2 ^ m) : getI (tabR m f) (k : Int) = some (f k) := by
  refine getI_nat (by omega) ?_
  unfold tabR
  rw [Int.toNat_natCast, List.getElem?_map, List.getElem?_range h]
  rfl
def tabs (price : Int) (m : Nat) : List (List Int) → List (List Int)
  | [] => [tabR m (V price m [])]
  | row :: rest => tabR m (V price m (row :: rest)) :: tabs price m rest
theorem tabs_head (price : Int) (m : Nat) (sqs : List (List Int)) : ∃ t, tabs price m sqs = tabR m (V price m sqs) :: t := by
  cases sqs with
  | nil => exact ⟨[], rfl⟩
  | cons r rest => exact ⟨_, rfl⟩
theorem tabs_len (price : Int) (m : Nat) : ∀ sqs : List (List Int), (tabs price m sqs).length = sqs.length + 1
  | [] => rfl
  | r :: rest => by
    show (tabs price m rest).length + 1 = _
    rw [tabs_len price m rest]
    rfl
theorem tabs_at (price : Int) (m : Nat) : ∀ (sqs : List (List Int)) (i : Nat), i ≤ sqs.length → (tabs price m sqs)[i]? = some (tabR m (V price m (sqs.drop i)))
  | sqs, 0, _ => by
    obtain ⟨t, e⟩ := tabs_head price m sqs
    rw [e]
    rfl
  | [], i + 1, h => by simp at h
  | r :: rest, i + 1, h => by
    show (tabs price m rest)[i]? = _
    rw [tabs_at price m rest i (by simpa using h)]
    rfl
def sqsOf (one other : List Col) : List (List Int) := one.map fun c => other.map fun d => ap c d
theorem sqs_at {one other : List Col} {i : Int} (h0 : 0 ≤ i) (h1 : i < one.length) : ∃ row, getI (sqsOf one other) i = some row ∧ (sqsOf one other)[i.toNat]? = some row ∧ row.length = other.length := by
  have hl : i.toNat < one.length := by omega
  refine ⟨other.map fun d => ap (one[i.toNat]) d, ?_, ?_, List.length_map _⟩
  · refine getI_nat h0 ?_
    unfold sqsOf
    rw [List.getElem?_map, List.getElem?_eq_getElem hl]
    rfl
  · unfold sqsOf
    rw [List.getElem?_map, List.getElem?_eq_getElem hl]
    rfl
theorem get_row {row : List Int} {j : Int} (h0 : 0 ≤ j) (h1 : j < row.length) : getI row j = some (row[j.toNat]?.getD 0) := by
  have hl : j.toNat < row.length := by omega
  rw [getI_nat h0 (List.getElem?_eq_getElem hl), List.getElem?_eq_getElem hl]
  rfl
/-- the first partner, the first pairs -/
def partV (price : Int) (m : Nat) (row : List Int) (rest : List (List Int)) (k : Nat) : Option Int := (frees m k).find? fun j => decide ((row[j.toNat]?.getD 0) + V price m rest (k ||| 2 ^ j.toNat) = V price m (row :: rest) k)
def firstP (price : Int) (m : Nat) : List (List Int) → Int → Nat → List (Int × Int)
  | [], _, _ => []
  | row :: rest, i, k => if price * (((rest.length : Int) + 1 + m) - bits m k) = V price m (row :: rest) k then [] else
    match partV price m row rest k with
    | none => firstP price m rest (i + 1) k
    | some j => (i, j) :: firstP price m rest (i + 1) (k ||| 2 ^ j.toNat)
theorem forC_find {S R α : Type} {step : S → α → Option (Ctl S R)} {s : S} {t : α → Bool} {r : α → R} : ∀ {xs : List α}, (∀ x ∈ xs, step s x = some (cond (t x) (Ctl.rt (r x)) (Ctl.nx s))) → forC step s xs = some (match xs.find? t with | none => Ctl.nx s | some x => Ctl.rt (r x))
  | [], _ => rfl
  | x :: xs, h => by
    show (step s x).bind _ = _
    rw [h x List.mem_cons_self]
    rw [List.find?_cons]
    cases e : t x with
    | true => rfl
    | false =>
      show forC step s xs = _
      exact forC_find fun y hy => h y (List.mem_cons_of_mem _ hy)
theorem rng_nat (m : Nat) : rng 0 ((2 ^ m : Nat) : Int) = (List.range (2 ^ m)).map fun (i : Nat) => (i : Int) := by
  unfold rng
  have e : (((2 ^ m : Nat) : Int) - 0).toNat = 2 ^ m := by rw [Int.sub_zero, Int.toNat_natCast]
  rw [e]
  refine List.map_congr_left fun i _ => ?_
  omega
theorem rng_cons {a b : Int} (h : a < b) : rng a b = a :: rng (a + 1) b := by
  unfold rng
  have e : (b - a).toNat = (b - (a + 1)).toNat + 1 := by omega
  rw [e, List.range_succ_eq_map, List.map_cons, List.map_map]
  congr 1
  · omega
  · refine List.map_congr_left fun i _ => ?_
    show a + ((i + 1 : Nat) : Int) = a + 1 + (i : Int)
    omega
theorem rng_nil {a b : Int} (h : b ≤ a) : rng a b = [] := by
  unfold rng
  have e : (b - a).toNat = 0 := by omega
  rw [e]
  rfl
theorem rng_snoc {a b : Int} (h : a ≤ b) : rng a (b + 1) = rng a b ++ [b] := by
  unfold rng
  have e : (b + 1 - a).toNat = (b - a).toNat + 1 := by omega
  rw [e, List.range_succ, List.map_append]
  congr 1
  show [a + (((b - a).toNat : Nat) : Int)] = [b]
  congr 1
  omega
theorem fdiv_two (k : Int) : fdivG k 2 = some (k / 2) := by
  unfold fdivG
  rw [if_pos (.inr ⟨by decide, by decide⟩)]
theorem mod_two (k : Int) : modG k 2 = some (k % 2) := by
  unfold modG
  rw [if_pos (by decide)]
theorem whiF_step {S : Type} {cond : S → Option Bool} {step : S → Option S} {n : Nat} {s s' : S} (hc : cond s = some true) (hs : step s = some s') : whiF cond step (n + 1) s = whiF cond step n s' := by
  show (cond s).bind _ = _
  rw [hc]
  show (step s).bind _ = _
  rw [hs]
  rfl
theorem whiF_stop {S : Type} {cond : S → Option Bool} {step : S → Option S} {n : Nat} {s : S} (hc : cond s = some false) : whiF cond step (n + 1) s = some s := by
  show (cond s).bind _ = _
  rw [hc]
  rfl
/-- the loop that makes the first pairs -/
def fpCtl (price : Int) (m : Nat) (sqs : List (List Int)) (i k : Nat) (acc : List (Int × Int)) (row : List Int) : Ctl (Int × List (Int × Int)) (List (Int × Int)) :=
  if price * (((sqs.length : Int) - i + m) - bits m k) = V price m (row :: sqs.drop (i + 1)) k then .rt acc else
    match partV price m row (sqs.drop (i + 1)) k with
    | none => .nx ((k : Int), acc)
    | some j => .nx (((k ||| 2 ^ j.toNat : Nat) : Int), acc ++ [((i : Int), j)])
theorem fp_loop {m : Nat} {price : Int} {sqs : List (List Int)} {step : Int × List (Int × Int) → Int → Option (Ctl (Int × List (Int × Int)) (List (Int × Int)))}
    (hs : ∀ (i k : Nat) (acc : List (Int × Int)) (row : List Int), i < sqs.length → sqs[i]? = some row → k < 2 ^ m → acc.length ≤ i → step ((k : Int), acc) (i : Int) = some (fpCtl price m sqs i k acc row)) :
    ∀ (d i : Nat) (k : Nat) (acc : List (Int × Int)), i + d = sqs.length → k < 2 ^ m → acc.length ≤ i → Ok (forC step ((k : Int), acc) (rng (i : Int) (sqs.length : Int))) fun c => (match c with | .nx s => s.2 | .bk s => [] | .rt r => r) = acc ++ firstP price m (sqs.drop i) (i : Int) k ∧ ∀ s, c ≠ .bk s
  | 0, i, k, acc, hi, hk, ha => by
    rw [rng_nil (by omega), List.drop_of_length_le (by omega)]
    exact Ok.mk ⟨by show acc = acc ++ []; rw [List.append_nil], fun s e => nomatch e⟩
  | d + 1, i, k, acc, hi, hk, ha => by
    have hlt : i < sqs.length := by omega
    have h1 := hs i k acc sqs[i] hlt (List.getElem?_eq_getElem hlt) hk ha
    rw [rng_cons (by omega), List.drop_eq_getElem_cons hlt]
    have hdl : (sqs.drop (i + 1)).length = d := by rw [List.length_drop]; omega
    have ef : firstP price m (sqs[i] :: sqs.drop (i + 1)) (i : Int) k = if price * ((((sqs.drop (i + 1)).length : Int) + 1 + m) - bits m k) = V price m (sqs[i] :: sqs.drop (i + 1)) k then [] else
        match partV price m sqs[i] (sqs.drop (i + 1)) k with
        | none => firstP price m (sqs.drop (i + 1)) ((i : Int) + 1) k
        | some j => ((i : Int), j) :: firstP price m (sqs.drop (i + 1)) ((i : Int) + 1) (k ||| 2 ^ j.toNat) := rfl
    have en : (sqs.length : Int) - i + m - bits m k = ((sqs.drop (i + 1)).length : Int) + 1 + m - bits m k := by rw [hdl]; omega
    have ei : ((i : Int) + 1) = ((i + 1 : Nat) : Int) := by omega
    refine Ok.of h1 ?_
    unfold fpCtl
    rw [ef, en]
    by_cases hc : price * ((((sqs.drop (i + 1)).length : Int) + 1 + m) - bits m k) = V price m (sqs[i] :: sqs.drop (i + 1)) k
    · rw [if_pos hc, if_pos hc]
      exact Ok.mk ⟨(List.append_nil acc).symm, fun s e => nomatch e⟩
    · rw [if_neg hc, if_neg hc]
      cases hp : partV price m sqs[i] (sqs.drop (i + 1)) k with
      | none =>
        show Ok (forC step ((k : Int), acc) (rng ((i : Int) + 1) (sqs.length : Int))) _
        rw [ei]
        exact fp_loop hs d (i + 1) k acc (by omega) hk (by omega)
      | some j =>
        have hj := mem_frees.mp (List.mem_of_find?_eq_some hp)
        show Ok (forC step (((k ||| 2 ^ j.toNat : Nat) : Int), acc ++ [((i : Int), j)]) (rng ((i : Int) + 1) (sqs.length : Int))) _
        rw [ei]
        refine (fp_loop hs d (i + 1) (k ||| 2 ^ j.toNat) (acc ++ [((i : Int), j)]) (by omega) (or_lt hk hj.1.2 hj.1.1) (by rw [List.length_append]; show acc.length + 1 ≤ _; omega)).mono fun r hr => ?_
        rw [hr.1, List.append_assoc]
        exact ⟨rfl, hr.2⟩
theorem get_last {α : Type} (xs : List α) (x : α) : getI (xs ++ [x]) (-1) = some x := by
  unfold getI atI ixN
  rw [if_neg (by decide), if_pos (by rw [List.length_append, List.length_singleton]; omega), List.length_append, List.length_singleton]
  show (xs ++ [x])[((-1 : Int) + ((xs.length + 1 : Nat) : Int)).toNat]? = some x
  have e : ((-1 : Int) + ((xs.length + 1 : Nat) : Int)).toNat = xs.length := by omega
  rw [e, List.getElem?_append_right (Nat.le_refl _), Nat.sub_self]
  rfl
theorem dget_drop_ne {κ α : Type} [DecidableEq κ] {kvs : List (κ × α)} {k x : κ} (h : x ≠ k) : dget (ddrop kvs k) x = dget kvs x := by
  unfold dget ddrop
  congr 1
  induction kvs with
  | nil => rfl
  | cons p kvs ih =>
    rw [List.filter_cons]
    by_cases e : p.1 = k
    · rw [if_neg (by simpa using e), List.find?_cons_of_neg (by simp; rintro rfl; exact h e), ih]
    · rw [if_pos (by simpa using e)]
      by_cases e2 : p.1 = x
      · rw [List.find?_cons_of_pos (by simpa using e2), List.find?_cons_of_pos (by simpa using e2)]
      · rw [List.find?_cons_of_neg (by simpa using e2), List.find?_cons_of_neg (by simpa using e2), ih]
theorem cutI_sub {α : Type} (xs : List α) (lo hi : Option Int) : (cutI xs lo hi).Sublist xs := (List.take_sublist _ _).trans (List.drop_sublist _ _)
end FC
set_option maxHeartbeats 400000
/-! FY: grids: lists of rows of one length, read and stored at a spot; the spots in turn; what a spot hands on. -/
namespace FC
open PySem PySem.Spec PyProof.Rows L2 Evl
abbrev Spot := Int × Int
def Rect {β : Type} (H W : Nat) (m : List (List β)) : Prop := m.length = H ∧ ∀ r ∈ m, r.length = W
def Inn (H W : Nat) (f : Spot) : Prop := 0 ≤ f.1 ∧ f.1 < H ∧ 0 ≤ f.2 ∧ f.2 < W
def at_ {β : Type} (d : β) (m : List (List β)) (f : Spot) : β := (m[f.1.toNat]?.getD [])[f.2.toNat]?.getD d
def put {β : Type} (m : List (List β)) (f : Spot) (x : β) : List (List β) := m.set f.1.toNat ((m[f.1.toNat]?.getD []).set f.2.toNat x)
section
variable {β γ : Type} {H W : Nat} {m : List (List β)} {d : β} {f g : Spot}
theorem Rect.row (h : Rect H W m) (hf : Inn H W f) : ∃ r, m[f.1.toNat]? = some r ∧ r.length = W ∧ r ∈ m := by
  have hl : f.1.toNat < m.length := by
    have := hf.1
    have := hf.2.1
    rw [h.1]
    omega
  exact ⟨m[f.1.toNat], List.getElem?_eq_getElem hl, h.2 _ (List.getElem_mem hl), List.getElem_mem hl⟩
theorem get_rowG (h : Rect H W m) (hf : Inn H W f) : ∃ r, getI m f.1 = some r ∧ getI r f.2 = some (at_ d m f) ∧ r ∈ m := by
  obtain ⟨r, h1, h2, h3⟩ := h.row hf
  have hc : f.2.toNat < r.length := by
    have := hf.2.2.1
    have := hf.2.2.2
    omega
  refine ⟨r, getI_nat hf.1 h1, getI_nat hf.2.2.1 ?_, h3⟩
  unfold at_
  rw [h1]
  show r[f.2.toNat]? = some (r[f.2.toNat]?.getD d)
  rw [List.getElem?_eq_getElem hc]
  rfl
theorem nget_at (h : Rect H W m) (hf : Inn H W f) : nget m f.1 f.2 = some (at_ d m f) := by
  obtain ⟨r, h1, h2, _⟩ := get_rowG (d := d) h hf
  unfold nget
  rw [h1]
  exact h2
theorem ixN_nat {n : Nat} {i : Int} (h0 : 0 ≤ i) (h1 : i < n) : ixN n i = some i.toNat := by
  have h := getI_nat (xs := List.range n) (i := i) (x := i.toNat) h0 (by rw [List.getElem?_range (by omega)])
  obtain ⟨k, e1, e2⟩ := getI_ix h
  rw [List.length_range] at e1
  rw [e1]
  have e3 := (List.getElem?_eq_some_iff.mp e2).2
  rw [List.getElem_range] at e3
  rw [e3]
theorem nset_put {x : β} (h : Rect H W m) (hf : Inn H W f) : nset m f.1 f.2 x = some (put m f x) := by
  obtain ⟨r, h1, h2, _⟩ := h.row hf
  unfold nset put
  rw [ixN_nat hf.1 (by rw [h.1]; exact hf.2.1)]
  show (m[f.1.toNat]?).bind _ = _
  rw [h1]
  show (setI r f.2 x).bind _ = _
  unfold setI
  rw [ixN_nat hf.2.2.1 (by rw [h2]; exact hf.2.2.2)]
  rfl
theorem rect_put {x : β} (h : Rect H W m) (hf : Inn H W f) : Rect H W (put m f x) := by
  obtain ⟨r, h1, h2, _⟩ := h.row hf
  refine ⟨by unfold put; rw [List.length_set]; exact h.1, fun r' hr' => ?_⟩
  unfold put at hr'
  rcases List.mem_or_eq_of_mem_set hr' with z | z
  · exact h.2 _ z
  · rw [z, h1, List.length_set]
    exact h2
theorem spot_ext (hf : Inn H W f) (hg : Inn H W g) : g = f ↔ g.1.toNat = f.1.toNat ∧ g.2.toNat = f.2.toNat := by
  obtain ⟨a, b⟩ := f
  obtain ⟨a', b'⟩ := g
  have h1 : 0 ≤ a := hf.1
  have h2 : 0 ≤ b := hf.2.2.1
  have h3 : 0 ≤ a' := hg.1
  have h4 : 0 ≤ b' := hg.2.2.1
  rw [Prod.mk.injEq]
  show a' = a ∧ b' = b ↔ a'.toNat = a.toNat ∧ b'.toNat = b.toNat
  omega
theorem at_put {x : β} (h : Rect H W m) (hf : Inn H W f) (hg : Inn H W g) : at_ d (put m f x) g = if g = f then x else at_ d m g := by
  obtain ⟨r, h1, h2, _⟩ := h.row hf
  have hr : f.1.toNat < m.length := (List.getElem?_eq_some_iff.mp h1).1
  have hc : f.2.toNat < r.length := by
    have := hf.2.2.1
    have := hf.2.2.2
    omega
  have he := spot_ext hf hg
  unfold at_ put
  rw [List.getElem?_set]
  by_cases e1 : f.1.toNat = g.1.toNat
  · rw [if_pos e1, if_pos hr, ← e1, h1]
    show ((r.set f.2.toNat x)[g.2.toNat]?).getD d = _
    rw [List.getElem?_set]
    by_cases e2 : f.2.toNat = g.2.toNat
    · rw [if_pos e2, if_pos hc, if_pos (he.mpr ⟨e1.symm, e2.symm⟩)]
      rfl
    · rw [if_neg e2, if_neg fun z => e2 (he.mp z).2.symm]
      rfl
  · rw [if_neg e1, if_neg fun z => e1 (he.mp z).1.symm]
theorem at_map {δ : γ} {k : β → γ} (h : Rect H W m) (hf : Inn H W f) : at_ δ (m.map (List.map k)) f = k (at_ d m f) := by
  obtain ⟨r, h1, h2, _⟩ := h.row hf
  have hc : f.2.toNat < r.length := by
    have := hf.2.2.1
    have := hf.2.2.2
    omega
  unfold at_
  rw [List.getElem?_map, h1]
  show ((r.map k)[f.2.toNat]?).getD δ = k (r[f.2.toNat]?.getD d)
  rw [List.getElem?_map, List.getElem?_eq_getElem hc]
  rfl
theorem at_mem (h : Rect H W m) (hf : Inn H W f) : ∃ r ∈ m, at_ d m f ∈ r := by
  obtain ⟨r, h1, h2, h3⟩ := h.row hf
  have hc : f.2.toNat < r.length := by
    have := hf.2.2.1
    have := hf.2.2.2
    omega
  refine ⟨r, h3, ?_⟩
  unfold at_
  rw [h1]
  show r[f.2.toNat]?.getD d ∈ r
  rw [List.getElem?_eq_getElem hc]
  exact List.getElem_mem hc
theorem list_rng (d : β) (xs : List β) : xs = (rng 0 xs.length).map fun j => xs[j.toNat]?.getD d := by
  have h := congrArg (List.map Prod.snd) (enumI_eq d xs)
  rw [List.map_map] at h
  have e : (enumI xs).map Prod.snd = xs := by
    unfold enumI
    rw [List.map_map]
    show xs.zipIdx.map Prod.fst = xs
    rw [List.zipIdx_map_fst]
  rw [e] at h
  exact h
end
/-! ### sums -/
theorem sum_add {α : Type} (a b : α → Int) : ∀ l : List α, (l.map fun x => a x + b x).sum = (l.map a).sum + (l.map b).sum
  | [] => rfl
  | x :: l => by
    rw [List.map_cons, List.map_cons, List.map_cons, List.sum_cons, List.sum_cons, List.sum_cons, sum_add a b l]
    omega
theorem sum_congr {α : Type} {a b : α → Int} {l : List α} (h : ∀ x ∈ l, a x = b x) : (l.map a).sum = (l.map b).sum := by
  rw [List.map_congr_left h]
theorem sum_zero {α : Type} : ∀ l : List α, (l.map fun _ => (0 : Int)).sum = 0
  | [] => rfl
  | _ :: l => by
    rw [List.map_cons, List.sum_cons, sum_zero l]
    rfl
theorem sum_rev (l : List Int) : l.reverse.sum = l.sum := by
  induction l with
  | nil => rfl
  | cons x l ih =>
    rw [List.reverse_cons, List.sum_append, List.sum_cons, ih, List.sum_cons, List.sum_nil]
    omega
theorem sum_flat {α β : Type} (F : β → Int) (k : α → List β) : ∀ l : List α, ((l.flatMap k).map F).sum = (l.map fun x => ((k x).map F).sum).sum
  | [] => rfl
  | x :: l => by
    rw [List.flatMap_cons, List.map_append, List.sum_append, sum_flat F k l, List.map_cons, List.sum_cons]
theorem sum_one {v : Int} {t : Spot} : ∀ {l : List Spot}, l.Nodup → t ∈ l → (l.map fun g => if t = g then v else 0).sum = v
  | [], _, h => by cases h
  | x :: l, hn, h => by
    rw [List.map_cons, List.sum_cons]
    by_cases e : t = x
    · rw [if_pos e]
      have hx : t ∉ l := by rw [e]; exact (List.nodup_cons.mp hn).1
      rw [sum_congr (b := fun _ => 0) fun g hg => if_neg fun (z : t = g) => hx (z ▸ hg), sum_zero]
      omega
    · rw [if_neg e, sum_one (List.nodup_cons.mp hn).2 ((List.mem_cons.mp h).resolve_left e)]
      omega
/-! ### spots in turn -/
def sideF (way : Str) (r : Int) : Int := if way = Str.ofString "turned" ∧ r % 2 = 1 then -1 else 1
theorem side_or (way : Str) (r : Int) : sideF way r = 1 ∨ sideF way r = -1 := by
  unfold sideF
  split
  · exact .inr rfl
  · exact .inl rfl
def colF (way : Str) (W : Nat) (r : Int) : List Int := if sideF way r = 1 then rng 0 W else (rng 0 W).reverse
def spF (H W : Nat) (way : Str) : List Spot := (rng 0 H).flatMap fun r => (colF way W r).map fun c => (r, c)
theorem mem_colF {way : Str} {W : Nat} {r c : Int} : c ∈ colF way W r ↔ 0 ≤ c ∧ c < W := by
  unfold colF
  split
  · exact mem_rng
  · rw [List.mem_reverse]
    exact mem_rng
theorem mem_spF {H W : Nat} {way : Str} {f : Spot} : f ∈ spF H W way ↔ Inn H W f := by
  unfold spF Inn
  rw [List.mem_flatMap]
  constructor
  · rintro ⟨r, h1, h2⟩
    obtain ⟨c, h3, rfl⟩ := List.mem_map.mp h2
    have := mem_rng.mp h1
    have := mem_colF.mp h3
    exact ⟨by show 0 ≤ r; omega, by show r < H; omega, by show 0 ≤ c; omega, by show c < W; omega⟩
  · rintro ⟨h1, h2, h3, h4⟩
    exact ⟨f.1, mem_rng.mpr ⟨h1, h2⟩, List.mem_map.mpr ⟨f.2, mem_colF.mpr ⟨h3, h4⟩, rfl⟩⟩
def pos (W : Nat) (way : Str) (f : Spot) : Int := f.1 * W + (if sideF way f.1 = 1 then f.2 else W - 1 - f.2)
theorem pos_lt {W : Nat} {way : Str} {f g : Spot} (hf : 0 ≤ f.2 ∧ f.2 < W) (hg : 0 ≤ g.2 ∧ g.2 < W) (h : f.1 < g.1) : pos W way f < pos W way g := by
  unfold pos
  have h1 : (f.1 + 1) * W ≤ g.1 * W := Int.mul_le_mul_of_nonneg_right (by omega) (by omega)
  rw [Int.add_mul] at h1
  generalize f.1 * (W : Int) = a at *
  generalize g.1 * (W : Int) = b at *
  split <;> split <;> omega
theorem spF_pw (H W : Nat) (way : Str) : (spF H W way).Pairwise fun f g => pos W way f < pos W way g := by
  unfold spF
  rw [List.pairwise_flatMap]
  constructor
  · intro r _
    rw [List.pairwise_map]
    unfold colF
    split
    · rename_i e
      refine (rng_pw _ _).imp fun h => ?_
      show r * (W : Int) + (if sideF way r = 1 then _ else _) < r * (W : Int) + (if sideF way r = 1 then _ else _)
      rw [if_pos e, if_pos e]
      omega
    · rename_i e
      rw [List.pairwise_reverse]
      refine (rng_pw _ _).imp fun h => ?_
      show r * (W : Int) + (if sideF way r = 1 then _ else _) < r * (W : Int) + (if sideF way r = 1 then _ else _)
      rw [if_neg e, if_neg e]
      omega
  · refine (rng_pw _ _).imp fun h f hf g hg => ?_
    obtain ⟨c, h1, rfl⟩ := List.mem_map.mp hf
    obtain ⟨c', h2, rfl⟩ := List.mem_map.mp hg
    exact pos_lt (mem_colF.mp h1) (mem_colF.mp h2) h
theorem spF_nd (H W : Nat) (way : Str) : (spF H W way).Nodup := (spF_pw H W way).imp fun h e => by
  rw [e] at h
  omega
theorem spF_later {H W : Nat} {way : Str} {q l : List Spot} {f g : Spot} (h : spF H W way = q ++ f :: l) (hg : Inn H W g) (hp : pos W way f < pos W way g) : g ∈ l := by
  have hm : g ∈ spF H W way := mem_spF.mpr hg
  have pw := spF_pw H W way
  rw [h] at hm pw
  rcases List.mem_append.mp hm with z | z
  · have := (List.pairwise_append.mp pw).2.2 g z f List.mem_cons_self
    omega
  · rcases List.mem_cons.mp z with z | z
    · rw [z] at hp
      omega
    · exact z
theorem spF_len (H W : Nat) (way : Str) : (spF H W way).length = H * W := by
  unfold spF
  rw [List.length_flatMap]
  have e : (rng 0 (H : Int)).map (fun r => (List.map (fun c => (r, c)) (colF way W r)).length) = List.replicate H W := by
    rw [List.eq_replicate_iff]
    refine ⟨by rw [List.length_map, rng_len]; omega, fun x hx => ?_⟩
    obtain ⟨r, _, rfl⟩ := List.mem_map.mp hx
    rw [List.length_map]
    unfold colF
    split
    · rw [rng_len]; omega
    · rw [List.length_reverse, rng_len]; omega
  rw [e, List.sum_replicate_nat]
theorem rng_rev (W : Nat) : (rng 0 (W : Int)).map (fun s => (W : Int) - 1 - s) = (rng 0 (W : Int)).reverse := by
  have hl : (rng 0 (W : Int)).length = W := by rw [rng_len]; omega
  have hg : ∀ i, i < W → (rng 0 (W : Int))[i]? = some (i : Int) := fun i hi => by
    unfold rng
    rw [List.getElem?_map, List.getElem?_range (by omega)]
    show some (0 + (i : Int)) = _
    rw [Int.zero_add]
  refine List.ext_getElem? fun i => ?_
  rw [List.getElem?_map]
  by_cases h : i < W
  · rw [hg i h, List.getElem?_reverse (by rw [hl]; exact h), hl, hg (W - 1 - i) (by omega)]
    show some ((W : Int) - 1 - i) = some (((W - 1 - i : Nat) : Int))
    congr 1
    omega
  · rw [List.getElem?_eq_none (by rw [hl]; omega), List.getElem?_eq_none (by rw [List.length_reverse, hl]; omega)]
    rfl
theorem filt_all {α : Type} : ∀ xs : List α, (List.range xs.length).filterMap (fun i => xs[i]?) = xs
  | [] => rfl
  | x :: xs => by
    rw [List.length_cons, List.range_succ_eq_map, List.filterMap_cons]
    show x :: ((List.range xs.length).map Nat.succ).filterMap (fun i => (x :: xs)[i]?) = _
    rw [List.filterMap_map]
    exact congrArg (x :: ·) (filt_all xs)
theorem fm_congr {α β : Type} {k k' : α → Option β} : ∀ {l : List α}, (∀ x ∈ l, k x = k' x) → l.filterMap k = l.filterMap k'
  | [], _ => rfl
  | x :: l, h => by
    rw [List.filterMap_cons, List.filterMap_cons, h x List.mem_cons_self, fm_congr fun y hy => h y (List.mem_cons_of_mem _ hy)]
theorem stp_one {α : Type} (xs : List α) : stpI xs none none 1 = some xs := by
  unfold stpI
  rw [if_neg (by decide)]
  show some ((sliceRange ((0 : Nat) : Int) (xs.length : Int) 1).filterMap _) = _
  rw [sliceRange_one]
  congr 1
  rw [List.filterMap_map, Nat.sub_zero]
  refine Eq.trans (fm_congr fun i _ => ?_) (filt_all xs)
  show xs[0 + i]? = _
  rw [Nat.zero_add]
theorem stp_rev {α : Type} (xs : List α) : stpI xs none none (-1) = some xs.reverse := by
  unfold stpI
  rw [if_neg (by decide)]
  show some ((sliceRange ((xs.length : Int) - 1) (-1) (-1)).filterMap _) = _
  rw [PySem.W.krv_sliceRange]
  congr 1
  have h := filt_all xs.reverse
  rw [List.length_reverse] at h
  rw [List.filterMap_map]
  refine Eq.trans (fm_congr fun i hi => ?_) h
  have hi' := List.mem_range.mp hi
  show xs[xs.length - 1 - i]? = _
  rw [List.getElem?_reverse hi']
/-! ### what a spot hands on -/
abbrev Shares := List (Int × Int × Int)
structure Sh (sh : Shares) : Prop where
  len : sh.length ≤ 12
  ok : ∀ s ∈ sh, (0 < s.2.1 ∨ s.2.1 = 0 ∧ 0 < s.1) ∧ (-2 ≤ s.1 ∧ s.1 ≤ 2) ∧ 1 ≤ s.2.2 ∧ s.2.2 ≤ 64
def tkOne (way : Str) (f : Spot) (s : Int × Int × Int) : Spot := (f.1 + s.2.1, f.2 + s.1 * sideF way f.1)
def tkOk (H W : Nat) (way : Str) (f : Spot) (s : Int × Int × Int) : Bool := decide ((tkOne way f s).1 < H) && (decide (0 ≤ (tkOne way f s).2) && decide ((tkOne way f s).2 < W))
def tkF (sh : Shares) (way : Str) (H W : Nat) (f : Spot) : List (Spot × Int) := (sh.filter (tkOk H W way f)).map fun s => (tkOne way f s, s.2.2)
def totF (sh : Shares) : Int := (sh.map fun s => s.2.2).sum
theorem sum_ge {α : Type} {a : α → Int} : ∀ {l : List α}, (∀ x ∈ l, 0 ≤ a x) → ∀ x ∈ l, a x ≤ (l.map a).sum
  | [], _, _, h => by cases h
  | y :: l, h0, x, h => by
    have h1 : ∀ z ∈ l, 0 ≤ a z := fun z hz => h0 z (List.mem_cons_of_mem _ hz)
    have hy := h0 y List.mem_cons_self
    have hs : 0 ≤ (l.map a).sum := by
      clear h
      induction l with
      | nil => exact Int.le_refl _
      | cons w l ih =>
        rw [List.map_cons, List.sum_cons]
        have := h1 w List.mem_cons_self
        have := ih (fun z hz => h0 z (by rcases List.mem_cons.mp hz with e | e; exact e ▸ List.mem_cons_self; exact List.mem_cons_of_mem _ (List.mem_cons_of_mem _ e))) fun z hz => h1 z (List.mem_cons_of_mem _ hz)
        omega
    rw [List.map_cons, List.sum_cons]
    rcases List.mem_cons.mp h with e | e
    · rw [e]
      omega
    · have := sum_ge h1 x e
      omega
theorem sum_le_n {α : Type} {a : α → Int} {b : Int} : ∀ {l : List α}, (∀ x ∈ l, a x ≤ b) → (l.map a).sum ≤ b * l.length
  | [], _ => by simp
  | y :: l, h => by
    rw [List.map_cons, List.sum_cons, List.length_cons]
    have h1 := h y List.mem_cons_self
    have h2 := sum_le_n (l := l) fun z hz => h z (List.mem_cons_of_mem _ hz)
    have e : b * ((l.length + 1 : Nat) : Int) = b * l.length + b := by
      rw [show ((l.length + 1 : Nat) : Int) = (l.length : Int) + 1 by omega, Int.mul_add, Int.mul_one]
    omega
theorem tk_mem {sh : Shares} {way : Str} {H W : Nat} {f : Spot} {t : Spot × Int} (hs : Sh sh) (hf : Inn H W f) (h : t ∈ tkF sh way H W f) : Inn H W t.1 ∧ pos W way f < pos W way t.1 ∧ 1 ≤ t.2 ∧ t.2 ≤ totF sh ∧ t.2 ≤ 64 := by
  obtain ⟨s, h1, rfl⟩ := List.mem_map.mp h
  obtain ⟨h2, h3⟩ := List.mem_filter.mp h1
  unfold tkOk at h3
  rw [Bool.and_eq_true, Bool.and_eq_true] at h3
  have g1 := of_decide_eq_true h3.1
  have g2 := of_decide_eq_true h3.2.1
  have g3 := of_decide_eq_true h3.2.2
  obtain ⟨o1, o2, o3, o4⟩ := hs.ok s h2
  have hin : Inn H W (tkOne way f s) := by
    refine ⟨?_, g1, g2, g3⟩
    have := hf.1
    show 0 ≤ f.1 + s.2.1
    omega
  refine ⟨hin, ?_, o3, sum_ge (a := fun s : Int × Int × Int => s.2.2) (fun x hx => by have := (hs.ok x hx).2.2.1; omega) s h2, o4⟩
  rcases o1 with z | ⟨z, z2⟩
  · exact pos_lt ⟨hf.2.2.1, hf.2.2.2⟩ ⟨g2, g3⟩ (by show f.1 < f.1 + s.2.1; omega)
  · have e : (tkOne way f s).1 = f.1 := by
      show f.1 + s.2.1 = f.1
      omega
    unfold pos
    rw [e]
    show _ < f.1 * (W : Int) + (if sideF way f.1 = 1 then f.2 + s.1 * sideF way f.1 else (W : Int) - 1 - (f.2 + s.1 * sideF way f.1))
    rcases side_or way f.1 with q | q
    · rw [if_pos q, if_pos q, q]
      omega
    · rw [if_neg (by rw [q]; decide), if_neg (by rw [q]; decide), q]
      omega
theorem totF_le {sh : Shares} (hs : Sh sh) : totF sh ≤ 768 := by
  have := sum_le_n (a := fun s : Int × Int × Int => s.2.2) (b := 64) fun x hx => (hs.ok x hx).2.2.2
  have := hs.len
  show (sh.map fun s => s.2.2).sum ≤ 768
  omega
theorem tk_tot {sh : Shares} {way : Str} {H W : Nat} {f : Spot} (hs : Sh sh) (hf : Inn H W f) (h : tkF sh way H W f ≠ []) : 0 < totF sh := by
  cases e : tkF sh way H W f with
  | nil => exact absurd e h
  | cons t l =>
    have := tk_mem hs hf (t := t) (by rw [e]; exact List.mem_cons_self)
    omega
theorem tk_len {sh : Shares} {way : Str} {H W : Nat} {f : Spot} (hs : Sh sh) : (tkF sh way H W f).length ≤ 12 := by
  unfold tkF
  rw [List.length_map]
  exact Nat.le_trans (List.length_filter_le _ _) hs.len
/-- the pieces, the first one taking what is left -/
def adj (r : Int) : List Int → List Int
  | [] => []
  | x :: xs => (x + (r - (x :: xs).sum)) :: xs
def VP (tk : List (Spot × Int)) (tot r : Int) : List Int := adj r (tk.map fun t => r * t.2 / tot)
theorem adj_len (r : Int) (l : List Int) : (adj r l).length = l.length := by
  cases l <;> rfl
theorem VP_len (tk : List (Spot × Int)) (tot r : Int) : (VP tk tot r).length = tk.length := by
  unfold VP
  rw [adj_len, List.length_map]
theorem adj_sum {r : Int} {l : List Int} (h : l ≠ []) : (adj r l).sum = r := by
  cases l with
  | nil => exact absurd rfl h
  | cons x xs =>
    show ((x + (r - (x :: xs).sum)) :: xs).sum = r
    rw [List.sum_cons, List.sum_cons]
    omega
theorem VP_sum {tk : List (Spot × Int)} {tot r : Int} (h : tk ≠ []) : (VP tk tot r).sum = r := adj_sum fun e => h (List.map_eq_nil_iff.mp e)
def con (g : Spot) (tk : List (Spot × Int)) (vs : List Int) : Int := ((tk.zip vs).map fun x => if x.1.1 = g then x.2 else 0).sum
theorem con_none {g : Spot} : ∀ {tk : List (Spot × Int)} {vs : List Int}, (∀ t ∈ tk, t.1 ≠ g) → con g tk vs = 0
  | [], _, _ => rfl
  | _ :: _, [], _ => rfl
  | t :: tk, v :: vs, h => by
    show (if t.1 = g then v else 0) + con g tk vs = 0
    rw [if_neg (h t List.mem_cons_self), con_none fun u hu => h u (List.mem_cons_of_mem _ hu)]
    rfl
theorem con_sum {l : List Spot} (hn : l.Nodup) : ∀ {tk : List (Spot × Int)} {vs : List Int}, vs.length = tk.length → (∀ t ∈ tk, t.1 ∈ l) → (l.map fun g => con g tk vs).sum = vs.sum
  | [], [], _, _ => sum_zero l
  | [], _ :: _, h, _ => by cases h
  | _ :: _, [], h, _ => by cases h
  | t :: tk, v :: vs, h, hm => by
    have e : (fun g => con g (t :: tk) (v :: vs)) = fun g => (if t.1 = g then v else 0) + con g tk vs := rfl
    rw [e, sum_add, sum_one hn (hm t List.mem_cons_self), con_sum hn (Nat.succ.inj h) fun u hu => hm u (List.mem_cons_of_mem _ hu), List.sum_cons]
/-! ### bounds -/
theorem div_bound {r t tot : Int} (h1 : 0 < t) (h2 : t ≤ tot) {b : Int} (hb : -b ≤ r ∧ r ≤ b) : -b ≤ r * t / tot ∧ r * t / tot ≤ b := by
  have h0 : 0 < tot := by omega
  have hb0 : 0 ≤ b := by omega
  constructor
  · refine (Int.le_ediv_iff_mul_le h0).mpr ?_
    have e1 : -b * tot ≤ -b * t := by
      rw [Int.neg_mul, Int.neg_mul]
      exact Int.neg_le_neg (Int.mul_le_mul_of_nonneg_left h2 hb0)
    exact Int.le_trans e1 (Int.mul_le_mul_of_nonneg_right hb.1 (by omega))
  · refine Int.ediv_le_of_le_mul h0 ?_
    exact Int.le_trans (Int.mul_le_mul_of_nonneg_right hb.2 (by omega)) (Int.mul_le_mul_of_nonneg_left h2 hb0)
theorem sum_bound {b : Int} : ∀ {l : List Int}, (∀ x ∈ l, -b ≤ x ∧ x ≤ b) → -(b * l.length) ≤ l.sum ∧ l.sum ≤ b * l.length
  | [], _ => by simp
  | y :: l, h => by
    rw [List.sum_cons, List.length_cons]
    have h1 := h y List.mem_cons_self
    have h2 := sum_bound (l := l) fun z hz => h z (List.mem_cons_of_mem _ hz)
    have e : b * ((l.length + 1 : Nat) : Int) = b * l.length + b := by
      rw [show ((l.length + 1 : Nat) : Int) = (l.length : Int) + 1 by omega, Int.mul_add, Int.mul_one]
    omega
theorem VP_bound {tk : List (Spot × Int)} {tot r b : Int} (hl : tk.length ≤ 12) (ht : ∀ t ∈ tk, 0 < t.2 ∧ t.2 ≤ tot) (hb : -b ≤ r ∧ r ≤ b) : ∀ v ∈ VP tk tot r, -(14 * b) ≤ v ∧ v ≤ 14 * b := by
  have h0 : 0 ≤ b := by omega
  have h1 : ∀ v ∈ tk.map (fun t => r * t.2 / tot), -b ≤ v ∧ v ≤ b := fun v hv => by
    obtain ⟨t, h2, rfl⟩ := List.mem_map.mp hv
    exact div_bound (ht t h2).1 (ht t h2).2 hb
  unfold VP
  have hl' : (tk.map fun t => r * t.2 / tot).length ≤ 12 := by rw [List.length_map]; exact hl
  generalize tk.map (fun t => r * t.2 / tot) = l at h1 hl'
  cases l with
  | nil => intro v hv; cases hv
  | cons x xs =>
    intro v hv
    rcases List.mem_cons.mp hv with e | e
    · have h3 := sum_bound (b := b) (l := xs) fun z hz => h1 z (List.mem_cons_of_mem _ hz)
      have h4 : b * xs.length ≤ b * 12 := Int.mul_le_mul_of_nonneg_left (by rw [List.length_cons] at hl'; omega) h0
      rw [e, List.sum_cons]
      omega
    · have := h1 v (List.mem_cons_of_mem _ e)
      omega
theorem con_bound {g : Spot} {b : Int} (hb : 0 ≤ b) {tk : List (Spot × Int)} {vs : List Int} (hl : tk.length ≤ 12) (h : ∀ v ∈ vs, -b ≤ v ∧ v ≤ b) : -(12 * b) ≤ con g tk vs ∧ con g tk vs ≤ 12 * b := by
  unfold con
  have h1 := sum_bound (b := b) (l := (tk.zip vs).map fun x => if x.1.1 = g then x.2 else 0) fun z hz => by
    obtain ⟨x, hx, rfl⟩ := List.mem_map.mp hz
    have := h x.2 (List.of_mem_zip hx).2
    show -b ≤ (if x.1.1 = g then x.2 else 0) ∧ _
    split
    · exact this
    · omega
  have h2 : ((tk.zip vs).map fun x => if x.1.1 = g then x.2 else 0).length ≤ 12 := by
    rw [List.length_map, List.length_zip]
    omega
  have h3 : b * ((tk.zip vs).map fun x => if x.1.1 = g then x.2 else 0).length ≤ b * 12 := Int.mul_le_mul_of_nonneg_left (by omega) hb
  omega
end FC
set_option maxHeartbeats 2000000
namespace K83
open PySem PySem.Spec PyProof.Rows L2 Evl FC
def topS (i : Nat) : Stmt := PySem.Challenge.pw_fewcolours_k83_whole_nothing_lost_on_the.main.body.getD i (.Pass ⟨0, 0, 0, 0⟩)
abbrev names_Handing : List Str := ["own_wanted", "own_shares", "own_way", "own_lost"]
theorem pa_Handing_own_wanted : PutAt "own_wanted" names_Handing 0 := by decide +kernel
theorem pa_Handing_own_shares : PutAt "own_shares" names_Handing 1 := by decide +kernel
theorem pa_Handing_own_way : PutAt "own_way" names_Handing 2 := by decide +kernel
theorem pa_Handing_own_lost : PutAt "own_lost" names_Handing 3 := by decide +kernel
theorem nm_Handing_side_of : ("side_of" : Str) ∉ names_Handing := by decide +kernel
theorem nm_Handing_spots_in_turn : ("spots_in_turn" : Str) ∉ names_Handing := by decide +kernel
theorem nm_Handing_takers : ("takers" : Str) ∉ names_Handing := by decide +kernel
theorem nm_Handing_wanted_at : ("wanted_at" : Str) ∉ names_Handing := by decide +kernel
theorem nm_Handing_more_at : ("more_at" : Str) ∉ names_Handing := by decide +kernel
theorem nm_Handing_tell : ("tell" : Str) ∉ names_Handing := by decide +kernel
noncomputable def m_apart (v_one : (List Int)) (v_other : (List Int)) : Option (Int) :=
  ((lenG (List.length (List.zip v_one v_other))).bind fun u4 => ((mapO (fun (p_ : (Int × Int)) => (fun (v_a1 : Int) (v_b1 : Int) => ((mulG (v_a1 - v_b1) (v_a1 - v_b1)).bind fun t2 => some t2)) p_.1 p_.2) (List.zip v_one v_other)).bind fun o6 => some (List.sum o6)))
def pf_m_apart : Pf := fun as m R => ∃ (v_one : (List Int)) (v_other : (List Int)) (r_ : Int), m_apart v_one v_other = some r_ ∧ as = [.da ((dU dI) v_one), .da ((dU dI) v_other)] ∧ m = [] ∧ R = fun c m2 => c = .da (dI r_) ∧ m2 = []
abbrev sm_apart : Stmt := topS 1
abbrev N_m_apart : List Str := ["one", "other", "a", "b"]
theorem sc_m_apart : FnScope N_m_apart ["one", "other"] (defScope sm_apart) := ⟨rfl, rfl, rfl, by decide +kernel, rfl, by decide +kernel, by decide +kernel⟩
noncomputable def m_squares_by (v_palette : (List (List Int))) (v_colour : (List Int)) : Option ((List (Int × Int))) :=
  ((lenG (List.length (enumI v_palette))).bind fun u4 => ((mapO (fun (p_ : (Int × (List Int))) => (fun (v_number1 : Int) (v_one1 : (List Int)) => ((m_apart v_one1 v_colour).bind fun t2 => some (t2, v_number1))) p_.1 p_.2) (enumI v_palette)).bind fun o6 => some o6))
def pf_m_squares_by : Pf := fun as m R => ∃ (v_palette : (List (List Int))) (v_colour : (List Int)) (r_ : (List (Int × Int))), m_squares_by v_palette v_colour = some r_ ∧ as = [.da ((dL (dU dI)) v_palette), .da ((dU dI) v_colour)] ∧ m = [] ∧ R = fun c m2 => c = .da ((dL (dP dI dI)) r_) ∧ m2 = []
abbrev sm_squares_by : Stmt := topS 3
abbrev N_m_squares_by : List Str := ["palette", "colour", "number", "one"]
theorem sc_m_squares_by : FnScope N_m_squares_by ["palette", "colour"] (defScope sm_squares_by) := ⟨rfl, rfl, rfl, by decide +kernel, rfl, by decide +kernel, by decide +kernel⟩
noncomputable def m_nearest (v_palette : (List (List Int))) (v_colour : (List Int)) : Option (Int) :=
  ((m_squares_by v_palette v_colour).bind fun t1 => ((minL (EncO.lt (dP dI dI)) t1).bind fun t3 => some (t3).2))
def pf_m_nearest : Pf := fun as m R => ∃ (v_palette : (List (List Int))) (v_colour : (List Int)) (r_ : Int), m_nearest v_palette v_colour = some r_ ∧ as = [.da ((dL (dU dI)) v_palette), .da ((dU dI) v_colour)] ∧ m = [] ∧ R = fun c m2 => c = .da (dI r_) ∧ m2 = []
abbrev sm_nearest : Stmt := topS 4
abbrev N_m_nearest : List Str := ["palette", "colour"]
theorem sc_m_nearest : FnScope N_m_nearest ["palette", "colour"] (defScope sm_nearest) := ⟨rfl, rfl, rfl, by decide +kernel, rfl, by decide +kernel, by decide +kernel⟩
noncomputable def m_Handing_init (v_picture : (List (List (List Int)))) (v_shares : (List (Int × Int × Int))) (v_way : Str) : Option (((List (Int × Int × Int)) × Str × (List Int)) × (List (List (List Int)))) :=
  ((lenG (List.length v_picture)).bind fun u2 => ((mapO (fun (v_row1 : (List (List Int))) => some v_row1) v_picture).bind fun o4 => ((getI v_picture (0 : Int)).bind fun t7 => ((getI t7 (0 : Int)).bind fun t9 => ((repI ([(0 : Int)] : (List Int)) (List.length t9 : Int)).bind fun t11 => some ((v_shares, v_way, t11), o4))))))
def pf_m_Handing_init (C_Handing : Addr) : Pf := fun as m R => ∃ (l_self : Addr) (dx_self : Addr) (v_picture : (List (List (List Int)))) (v_shares : (List (Int × Int × Int))) (v_way : Str) (w_self : ((List (Int × Int × Int)) × Str × (List Int))) (w_own_wanted : (List (List (List Int)))), m_Handing_init v_picture v_shares v_way = some (w_self, w_own_wanted) ∧ as = [.rf l_self, .da ((dL (dL (dU dI))) v_picture), .da ((dL (d3 dI dI dI)) v_shares), .da (dS v_way)] ∧ m = [(l_self, obj C_Handing dx_self names_Handing [])] ∧ R = fun c m2 => c = .da .none ∧ ∃ n_own_wanted ps_n_own_wanted, m2 = (([(l_self, obj C_Handing dx_self names_Handing [.rf n_own_wanted, .da ((dL (d3 dI dI dI)) w_self.1), .da (dS w_self.2.1), .da ((dL dI) w_self.2.2)])] : M) ++ nest (dU dI) n_own_wanted ps_n_own_wanted w_own_wanted)
abbrev sm_Handing_init : Stmt := inClass (topS 7) 0
abbrev N_m_Handing_init : List Str := ["self", "picture", "shares", "way", "row"]
theorem sc_m_Handing_init : FnScope N_m_Handing_init ["self", "picture", "shares", "way"] (defScope sm_Handing_init) := ⟨rfl, rfl, rfl, by decide +kernel, rfl, by decide +kernel, by decide +kernel⟩
noncomputable def m_Handing_side_of (v_self : ((List (Int × Int × Int)) × Str × (List Int))) (v_self_own_wanted : (List (List (List Int)))) (v_row : Int) : Option (Int) :=
  ((cond (decide (v_self.2.1 = (Str.ofString "turned"))) (((modG v_row (2 : Int)).bind fun t1 => some (decide (t1 = (1 : Int))))) (some false)).bind fun b3 => (cond b3 (some (-(1 : Int))) (some (1 : Int))))
def pf_m_Handing_side_of (C_Handing : Addr) : Pf := fun as m R => ∃ (l_self : Addr) (dx_self : Addr) (l_self_own_wanted : Addr) (ps_l_self_own_wanted : List Addr) (v_self : ((List (Int × Int × Int)) × Str × (List Int))) (v_self_own_wanted : (List (List (List Int)))) (v_row : Int) (r_ : Int), m_Handing_side_of v_self v_self_own_wanted v_row = some r_ ∧ as = [.rf l_self, .da (dI v_row)] ∧ m = (([(l_self, obj C_Handing dx_self names_Handing [.rf l_self_own_wanted, .da ((dL (d3 dI dI dI)) v_self.1), .da (dS v_self.2.1), .da ((dL dI) v_self.2.2)])] : M) ++ nest (dU dI) l_self_own_wanted ps_l_self_own_wanted v_self_own_wanted) ∧ R = fun c m2 => c = .da (dI r_) ∧ m2 = (([(l_self, obj C_Handing dx_self names_Handing [.rf l_self_own_wanted, .da ((dL (d3 dI dI dI)) v_self.1), .da (dS v_self.2.1), .da ((dL dI) v_self.2.2)])] : M) ++ nest (dU dI) l_self_own_wanted ps_l_self_own_wanted v_self_own_wanted)
abbrev sm_Handing_side_of : Stmt := inClass (topS 7) 1
abbrev N_m_Handing_side_of : List Str := ["self", "row"]
theorem sc_m_Handing_side_of : FnScope N_m_Handing_side_of ["self", "row"] (defScope sm_Handing_side_of) := ⟨rfl, rfl, rfl, by decide +kernel, rfl, by decide +kernel, by decide +kernel⟩
noncomputable def m_Handing_spots_in_turn (v_self : ((List (Int × Int × Int)) × Str × (List Int))) (v_self_own_wanted : (List (List (List Int)))) : Option ((List (Int × Int))) :=
  ((forF (fun (s_ : (List (Int × Int))) => (fun (p_ : (Int × (List (List Int)))) => (fun (v_row2 : Int) (v_spots3 : (List (List Int))) => (fun (c20 : (List (Int × Int))) => ((rngG 0 (List.length v_spots3 : Int)).bind fun rg34 => ((lenG (List.length rg34)).bind fun u36 => ((m_Handing_side_of v_self v_self_own_wanted v_row2).bind fun t38 => ((stpI rg34 none none t38).bind fun t40 => ((lenG (List.length t40)).bind fun u43 => ((lenG (List.length c20 + List.length (List.map (fun (v_column42 : Int) => (v_row2, v_column42)) t40))).bind fun u45 => some (c20 ++ (List.map (fun (v_column42 : Int) => (v_row2, v_column42)) t40))))))))) s_) p_.1 p_.2)) ([] : (List (Int × Int))) (enumI v_self_own_wanted)).bind fun c47 => some c47)
def pf_m_Handing_spots_in_turn (C_Handing : Addr) : Pf := fun as m R => ∃ (l_self : Addr) (dx_self : Addr) (l_self_own_wanted : Addr) (ps_l_self_own_wanted : List Addr) (v_self : ((List (Int × Int × Int)) × Str × (List Int))) (v_self_own_wanted : (List (List (List Int)))) (r_ : (List (Int × Int))), m_Handing_spots_in_turn v_self v_self_own_wanted = some r_ ∧ as = [.rf l_self] ∧ m = (([(l_self, obj C_Handing dx_self names_Handing [.rf l_self_own_wanted, .da ((dL (d3 dI dI dI)) v_self.1), .da (dS v_self.2.1), .da ((dL dI) v_self.2.2)])] : M) ++ nest (dU dI) l_self_own_wanted ps_l_self_own_wanted v_self_own_wanted) ∧ R = fun c m2 => c = .da ((dL (dP dI dI)) r_) ∧ m2 = (([(l_self, obj C_Handing dx_self names_Handing [.rf l_self_own_wanted, .da ((dL (d3 dI dI dI)) v_self.1), .da (dS v_self.2.1), .da ((dL dI) v_self.2.2)])] : M) ++ nest (dU dI) l_self_own_wanted ps_l_self_own_wanted v_self_own_wanted)
abbrev sm_Handing_spots_in_turn : Stmt := inClass (topS 7) 2
abbrev N_m_Handing_spots_in_turn : List Str := ["self", "found", "row", "spots", "column"]
theorem sc_m_Handing_spots_in_turn : FnScope N_m_Handing_spots_in_turn ["self"] (defScope sm_Handing_spots_in_turn) := ⟨rfl, rfl, rfl, by decide +kernel, rfl, by decide +kernel, by decide +kernel⟩
noncomputable def m_Handing_takers (v_self : ((List (Int × Int × Int)) × Str × (List Int))) (v_self_own_wanted : (List (List (List Int)))) (v_row : Int) (v_column : Int) : Option ((List ((Int × Int) × Int))) :=
  ((forF (fun (s_ : (List ((Int × Int) × Int))) => (fun (p_ : (Int × Int × Int)) => (fun (v_across2 : Int) (v_down3 : Int) (v_parts_there4 : Int) => (fun (c26 : (List ((Int × Int) × Int))) => ((m_Handing_side_of v_self v_self_own_wanted v_row).bind fun t45 => ((mulG v_across2 t45).bind fun t47 => ((some ((v_row + v_down3), (v_column + t47))).bind fun v_further49 => ((cond (decide ((v_further49).1 < (List.length v_self_own_wanted : Int))) (((cond (decide ((0 : Int) ≤ (v_further49).2)) (((getI v_self_own_wanted (0 : Int)).bind fun t51 => some (decide ((v_further49).2 < (List.length t51 : Int))))) (some false)).bind fun b53 => some b53)) (some false)).bind fun b55 => ((cond b55 (((lenG (List.length c26)).bind fun u60 => some (c26 ++ [(v_further49, v_parts_there4)]))) (some c26)).bind fun c59 => some c59)))))) s_) p_.1 p_.2.1 p_.2.2)) ([] : (List ((Int × Int) × Int))) v_self.1).bind fun c63 => some c63)
def pf_m_Handing_takers (C_Handing : Addr) : Pf := fun as m R => ∃ (l_self : Addr) (dx_self : Addr) (l_self_own_wanted : Addr) (ps_l_self_own_wanted : List Addr) (v_self : ((List (Int × Int × Int)) × Str × (List Int))) (v_self_own_wanted : (List (List (List Int)))) (v_row : Int) (v_column : Int) (r_ : (List ((Int × Int) × Int))), m_Handing_takers v_self v_self_own_wanted v_row v_column = some r_ ∧ as = [.rf l_self, .da (dI v_row), .da (dI v_column)] ∧ m = (([(l_self, obj C_Handing dx_self names_Handing [.rf l_self_own_wanted, .da ((dL (d3 dI dI dI)) v_self.1), .da (dS v_self.2.1), .da ((dL dI) v_self.2.2)])] : M) ++ nest (dU dI) l_self_own_wanted ps_l_self_own_wanted v_self_own_wanted) ∧ R = fun c m2 => c = .da ((dL (dP (dP dI dI) dI)) r_) ∧ m2 = (([(l_self, obj C_Handing dx_self names_Handing [.rf l_self_own_wanted, .da ((dL (d3 dI dI dI)) v_self.1), .da (dS v_self.2.1), .da ((dL dI) v_self.2.2)])] : M) ++ nest (dU dI) l_self_own_wanted ps_l_self_own_wanted v_self_own_wanted)
abbrev sm_Handing_takers : Stmt := inClass (topS 7) 3
abbrev N_m_Handing_takers : List Str := ["self", "row", "column", "found", "across", "down", "parts_there", "further"]
theorem sc_m_Handing_takers : FnScope N_m_Handing_takers ["self", "row", "column"] (defScope sm_Handing_takers) := ⟨rfl, rfl, rfl, by decide +kernel, rfl, by decide +kernel, by decide +kernel⟩
noncomputable def m_Handing_wanted_at (v_self : ((List (Int × Int × Int)) × Str × (List Int))) (v_self_own_wanted : (List (List (List Int)))) (v_row : Int) (v_column : Int) : Option ((List Int)) :=
  ((nget v_self_own_wanted v_row v_column).bind fun t1 => some t1)
def pf_m_Handing_wanted_at (C_Handing : Addr) : Pf := fun as m R => ∃ (l_self : Addr) (dx_self : Addr) (l_self_own_wanted : Addr) (ps_l_self_own_wanted : List Addr) (v_self : ((List (Int × Int × Int)) × Str × (List Int))) (v_self_own_wanted : (List (List (List Int)))) (v_row : Int) (v_column : Int) (r_ : (List Int)), m_Handing_wanted_at v_self v_self_own_wanted v_row v_column = some r_ ∧ as = [.rf l_self, .da (dI v_row), .da (dI v_column)] ∧ m = (([(l_self, obj C_Handing dx_self names_Handing [.rf l_self_own_wanted, .da ((dL (d3 dI dI dI)) v_self.1), .da (dS v_self.2.1), .da ((dL dI) v_self.2.2)])] : M) ++ nest (dU dI) l_self_own_wanted ps_l_self_own_wanted v_self_own_wanted) ∧ R = fun c m2 => c = .da ((dU dI) r_) ∧ m2 = (([(l_self, obj C_Handing dx_self names_Handing [.rf l_self_own_wanted, .da ((dL (d3 dI dI dI)) v_self.1), .da (dS v_self.2.1), .da ((dL dI) v_self.2.2)])] : M) ++ nest (dU dI) l_self_own_wanted ps_l_self_own_wanted v_self_own_wanted)
abbrev sm_Handing_wanted_at : Stmt := inClass (topS 7) 4
abbrev N_m_Handing_wanted_at : List Str := ["self", "row", "column"]
theorem sc_m_Handing_wanted_at : FnScope N_m_Handing_wanted_at ["self", "row", "column"] (defScope sm_Handing_wanted_at) := ⟨rfl, rfl, rfl, by decide +kernel, rfl, by decide +kernel, by decide +kernel⟩
noncomputable def m_Handing_more_at (v_self : ((List (Int × Int × Int)) × Str × (List Int))) (v_self_own_wanted : (List (List (List Int)))) (v_spot : (Int × Int)) (v_more : (List Int)) : Option (Unit × (List (List (List Int)))) :=
  ((nget v_self_own_wanted (v_spot).1 (v_spot).2).bind fun t1 => ((lenG (List.length (List.zip t1 v_more))).bind fun u4 => ((nset v_self_own_wanted (v_spot).1 (v_spot).2 (List.map (fun (p_ : (Int × Int)) => (fun (v_number3 : Int) (v_extra3 : Int) => (v_number3 + v_extra3)) p_.1 p_.2) (List.zip t1 v_more))).bind fun c6 => some ((), c6))))
def pf_m_Handing_more_at (C_Handing : Addr) : Pf := fun as m R => ∃ (l_self : Addr) (dx_self : Addr) (l_self_own_wanted : Addr) (ps_l_self_own_wanted : List Addr) (v_self : ((List (Int × Int × Int)) × Str × (List Int))) (v_self_own_wanted : (List (List (List Int)))) (v_spot : (Int × Int)) (v_more : (List Int)) (r_ : Unit) (w_self_own_wanted : (List (List (List Int)))), m_Handing_more_at v_self v_self_own_wanted v_spot v_more = some (r_, w_self_own_wanted) ∧ as = [.rf l_self, .da ((dP dI dI) v_spot), .da ((dL dI) v_more)] ∧ m = (([(l_self, obj C_Handing dx_self names_Handing [.rf l_self_own_wanted, .da ((dL (d3 dI dI dI)) v_self.1), .da (dS v_self.2.1), .da ((dL dI) v_self.2.2)])] : M) ++ nest (dU dI) l_self_own_wanted ps_l_self_own_wanted v_self_own_wanted) ∧ R = fun c m2 => c = .da .none ∧ m2 = (([(l_self, obj C_Handing dx_self names_Handing [.rf l_self_own_wanted, .da ((dL (d3 dI dI dI)) v_self.1), .da (dS v_self.2.1), .da ((dL dI) v_self.2.2)])] : M) ++ nest (dU dI) l_self_own_wanted ps_l_self_own_wanted w_self_own_wanted)
abbrev sm_Handing_more_at : Stmt := inClass (topS 7) 5
abbrev N_m_Handing_more_at : List Str := ["self", "spot", "more", "row", "column", "wanted", "number", "extra"]
theorem sc_m_Handing_more_at : FnScope N_m_Handing_more_at ["self", "spot", "more"] (defScope sm_Handing_more_at) := ⟨rfl, rfl, rfl, by decide +kernel, rfl, by decide +kernel, by decide +kernel⟩
noncomputable def m_Handing_tell (v_self : ((List (Int × Int × Int)) × Str × (List Int))) (v_self_own_wanted : (List (List (List Int)))) (v_row : Int) (v_column : Int) (v_colour : (List Int)) : Option (Unit × ((List (Int × Int × Int)) × Str × (List Int)) × (List (List (List Int)))) :=
  ((nget v_self_own_wanted v_row v_column).bind fun t1 => ((lenG (List.length (List.zip t1 v_colour))).bind fun u4 => ((some (List.map (fun (p_ : (Int × Int)) => (fun (v_number3 : Int) (v_told3 : Int) => (v_number3 - v_told3)) p_.1 p_.2) (List.zip t1 v_colour))).bind fun v_rest6 => ((m_Handing_takers v_self v_self_own_wanted v_row v_column).bind fun t8 => (cond (decide ((List.length t8 : Int) = (0 : Int))) (((lenG (List.length (List.zip v_self.2.2 v_rest6))).bind fun u11 => ((some (List.map (fun (p_ : (Int × Int)) => (fun (v_lost10 : Int) (v_number10 : Int) => (v_lost10 + v_number10)) p_.1 p_.2) (List.zip v_self.2.2 v_rest6))).bind fun v_own_lost13 => some ((), (v_self.1, v_self.2.1, v_own_lost13), v_self_own_wanted)))) (((lenG (List.length v_self.1)).bind fun u16 => ((some (List.sum (List.map (fun (p_ : (Int × Int × Int)) => (fun (v_across15 : Int) (v_down15 : Int) (v_parts_there15 : Int) => v_parts_there15) p_.1 p_.2.1 p_.2.2) v_self.1))).bind fun v_total18 => ((lenG (List.length t8)).bind fun u31 => ((mapO (fun (p_ : ((Int × Int) × Int)) => (fun (v_spot21 : (Int × Int)) (v_parts_there21 : Int) => ((lenG (List.length v_rest6)).bind fun u27 => ((mapO (fun (v_number22 : Int) => ((mulG v_number22 v_parts_there21).bind fun t23 => ((fdivG t23 v_total18).bind fun t25 => some t25))) v_rest6).bind fun o29 => some o29))) p_.1 p_.2) t8).bind fun o33 => ((forF (fun (s_ : (List (List Int))) => (fun (p_ : (Int × Int)) => (fun (v_place35 : Int) (v_number36 : Int) => (fun (c51 : (List (List Int))) => ((nget c51 (0 : Int) v_place35).bind fun t63 => ((lenG (List.length c51)).bind fun u68 => ((mapO (fun (v_row_of_one65 : (List Int)) => ((getI v_row_of_one65 v_place35).bind fun t66 => some t66)) c51).bind fun o70 => ((nset c51 (0 : Int) v_place35 (t63 + (v_number36 - (List.sum o70)))).bind fun c72 => some c72))))) s_) p_.1 p_.2)) o33 (enumI v_rest6)).bind fun c74 => ((forF (fun (s_ : (List (List (List Int)))) => (fun (p_ : (((Int × Int) × Int) × (List Int))) => (fun (v_taker75 : ((Int × Int) × Int)) (v_more76 : (List Int)) => (fun (c82 : (List (List (List Int)))) => ((m_Handing_more_at v_self c82 (v_taker75).1 v_more76).bind fun (t86, c87) => some c87)) s_) p_.1 p_.2)) v_self_own_wanted (List.zip t8 c74)).bind fun c89 => some ((), v_self, c89)))))))))))))
def pf_m_Handing_tell (C_Handing : Addr) : Pf := fun as m R => ∃ (l_self : Addr) (dx_self : Addr) (l_self_own_wanted : Addr) (ps_l_self_own_wanted : List Addr) (v_self : ((List (Int × Int × Int)) × Str × (List Int))) (v_self_own_wanted : (List (List (List Int)))) (v_row : Int) (v_column : Int) (v_colour : (List Int)) (r_ : Unit) (w_self : ((List (Int × Int × Int)) × Str × (List Int))) (w_self_own_wanted : (List (List (List Int)))), m_Handing_tell v_self v_self_own_wanted v_row v_column v_colour = some (r_, w_self, w_self_own_wanted) ∧ as = [.rf l_self, .da (dI v_row), .da (dI v_column), .da ((dU dI) v_colour)] ∧ m = (([(l_self, obj C_Handing dx_self names_Handing [.rf l_self_own_wanted, .da ((dL (d3 dI dI dI)) v_self.1), .da (dS v_self.2.1), .da ((dL dI) v_self.2.2)])] : M) ++ nest (dU dI) l_self_own_wanted ps_l_self_own_wanted v_self_own_wanted) ∧ R = fun c m2 => c = .da .none ∧ m2 = (([(l_self, obj C_Handing dx_self names_Handing [.rf l_self_own_wanted, .da ((dL (d3 dI dI dI)) w_self.1), .da (dS w_self.2.1), .da ((dL dI) w_self.2.2)])] : M) ++ nest (dU dI) l_self_own_wanted ps_l_self_own_wanted w_self_own_wanted)
abbrev sm_Handing_tell : Stmt := inClass (topS 7) 6
abbrev N_m_Handing_tell : List Str := ["self", "row", "column", "colour", "number", "rest", "takers", "total", "given", "place", "taker", "more", "told", "spot", "parts_there", "lost", "across", "down", "row_of_one"]
theorem sc_m_Handing_tell : FnScope N_m_Handing_tell ["self", "row", "column", "colour"] (defScope sm_Handing_tell) := ⟨rfl, rfl, rfl, by decide +kernel, rfl, by decide +kernel, by decide +kernel⟩
noncomputable def m_wanted_by (v_picture : (List (List (List Int)))) (v_palette : (List (List Int))) (v_shares : (List (Int × Int × Int))) (v_way : Str) (v_numbers : (List (List Int))) : Option ((List (List (List Int)))) :=
  ((m_Handing_init v_picture v_shares v_way).bind fun (c1, c2) => ((m_Handing_spots_in_turn c1 c2).bind fun t7 => ((forF (fun (s_ : ((List (Int × Int × Int)) × Str × (List Int)) × (List (List (List Int)))) => (fun (p_ : (Int × Int)) => (fun (v_row9 : Int) (v_column10 : Int) => (fun (c11 : ((List (Int × Int × Int)) × Str × (List Int))) (c12 : (List (List (List Int)))) => ((getI v_numbers v_row9).bind fun t23 => ((getI t23 v_column10).bind fun t25 => ((getI v_palette t25).bind fun t27 => ((m_Handing_tell c11 c12 v_row9 v_column10 t27).bind fun (t29, c30, c31) => some (c30, c31)))))) s_.1 s_.2) p_.1 p_.2)) (c1, c2) t7).bind fun (c33, c34) => ((lenG (List.length c34)).bind fun u36 => some (List.map (fun (v_row35 : (List (List Int))) => v_row35) c34)))))
def pf_m_wanted_by : Pf := fun as m R => ∃ (v_picture : (List (List (List Int)))) (v_palette : (List (List Int))) (v_shares : (List (Int × Int × Int))) (v_way : Str) (v_numbers : (List (List Int))) (r_ : (List (List (List Int)))), m_wanted_by v_picture v_palette v_shares v_way v_numbers = some r_ ∧ as = [.da ((dL (dL (dU dI))) v_picture), .da ((dL (dU dI)) v_palette), .da ((dL (d3 dI dI dI)) v_shares), .da (dS v_way), .da ((dL (dL dI)) v_numbers)] ∧ m = [] ∧ R = fun c m2 => c = .da ((dL (dL (dU dI))) r_) ∧ m2 = []
abbrev sm_wanted_by : Stmt := topS 8
abbrev N_m_wanted_by : List Str := ["picture", "palette", "shares", "way", "numbers", "handing", "row", "column"]
theorem sc_m_wanted_by : FnScope N_m_wanted_by ["picture", "palette", "shares", "way", "numbers"] (defScope sm_wanted_by) := ⟨rfl, rfl, rfl, by decide +kernel, rfl, by decide +kernel, by decide +kernel⟩
noncomputable def m_handed_on (v_picture : (List (List (List Int)))) (v_palette : (List (List Int))) (v_shares : (List (Int × Int × Int))) (v_way : Str) : Option (((List (List Int)) × (List Int))) :=
  ((m_Handing_init v_picture v_shares v_way).bind fun (c1, c2) => ((lenG (List.length v_picture)).bind fun u11 => ((mapO (fun (v_row8 : (List (List Int))) => ((repI ([(0 : Int)] : (List Int)) (List.length v_row8 : Int)).bind fun t9 => some t9)) v_picture).bind fun o13 => ((m_Handing_spots_in_turn c1 c2).bind fun t15 => ((forF (fun (s_ : ((List (Int × Int × Int)) × Str × (List Int)) × (List (List (List Int))) × (List (List Int))) => (fun (p_ : (Int × Int)) => (fun (v_row17 : Int) (v_column18 : Int) => (fun (c19 : ((List (Int × Int × Int)) × Str × (List Int))) (c20 : (List (List (List Int)))) (c21 : (List (List Int))) => ((m_Handing_wanted_at c19 c20 v_row17 v_column18).bind fun t34 => ((m_nearest v_palette t34).bind fun t36 => ((nset c21 v_row17 v_column18 t36).bind fun c38 => ((getI v_palette t36).bind fun t40 => ((m_Handing_tell c19 c20 v_row17 v_column18 t40).bind fun (t42, c43, c44) => some (c43, c44, c38))))))) s_.1 s_.2.1 s_.2.2) p_.1 p_.2)) (c1, c2, o13) t15).bind fun (c46, c47, c48) => some (c48, c46.2.2))))))
def pf_m_handed_on : Pf := fun as m R => ∃ (v_picture : (List (List (List Int)))) (v_palette : (List (List Int))) (v_shares : (List (Int × Int × Int))) (v_way : Str) (r_ : ((List (List Int)) × (List Int))), m_handed_on v_picture v_palette v_shares v_way = some r_ ∧ as = [.da ((dL (dL (dU dI))) v_picture), .da ((dL (dU dI)) v_palette), .da ((dL (d3 dI dI dI)) v_shares), .da (dS v_way)] ∧ m = [] ∧ R = fun c m2 => c = .da ((dP (dL (dL dI)) (dU dI)) r_) ∧ m2 = []
abbrev sm_handed_on : Stmt := topS 9
abbrev N_m_handed_on : List Str := ["picture", "palette", "shares", "way", "handing", "row", "told", "column", "number"]
theorem sc_m_handed_on : FnScope N_m_handed_on ["picture", "palette", "shares", "way"] (defScope sm_handed_on) := ⟨rfl, rfl, rfl, by decide +kernel, rfl, by decide +kernel, by decide +kernel⟩
noncomputable def m_law_mix (v_cell : Int) (v_k : Int) : Option (Int) :=
  ((modG v_cell (2147483629 : Int)).bind fun t1 => ((mulG v_k v_k).bind fun t3 => ((mulG t3 (7919 : Int)).bind fun t5 => ((mulG ((t1 + t5) + (11 : Int)) (48271 : Int)).bind fun t7 => ((modG t7 (2147483647 : Int)).bind fun t9 => ((mulG t9 t9).bind fun t11 => ((modG t11 (1999999973 : Int)).bind fun t13 => some t13)))))))
def pf_m_law_mix : Pf := fun as m R => ∃ (v_cell : Int) (v_k : Int) (r_ : Int), m_law_mix v_cell v_k = some r_ ∧ as = [.da (dI v_cell), .da (dI v_k)] ∧ m = [] ∧ R = fun c m2 => c = .da (dI r_) ∧ m2 = []
abbrev sm_law_mix : Stmt := topS 11
abbrev N_m_law_mix : List Str := ["cell", "k", "m"]
theorem sc_m_law_mix : FnScope N_m_law_mix ["cell", "k"] (defScope sm_law_mix) := ⟨rfl, rfl, rfl, by decide +kernel, rfl, by decide +kernel, by decide +kernel⟩
noncomputable def m_law_left (v_script : (List Int)) (v_k : Int) : Option ((List Int)) :=
  ((cond (decide (v_k < (List.length v_script : Int))) (((getI v_script v_k).bind fun t1 => some t1)) (some (0 : Int))).bind fun t3 => ((mulG (absI t3) (b2 (decide ((1000000000000000000 : Int) ≤ (absI t3))))).bind fun t5 => ((mulG (1000003 : Int) v_k).bind fun t7 => some ([t5, (t3 + t7), (0 : Int)] : (List Int)))))
def pf_m_law_left : Pf := fun as m R => ∃ (l_script : Addr) (v_script : (List Int)) (v_k : Int) (r_ : (List Int)), m_law_left v_script v_k = some r_ ∧ as = [.sl l_script v_script, .da (dI v_k)] ∧ m = [] ∧ R = fun c m2 => ∃ p, c = .rf p ∧ m2 = [(p, .ls (List.map dI r_))]
abbrev sm_law_left : Stmt := topS 12
abbrev N_m_law_left : List Str := ["script", "k", "cell"]
theorem sc_m_law_left : FnScope N_m_law_left ["script", "k"] (defScope sm_law_left) := ⟨rfl, rfl, rfl, by decide +kernel, rfl, by decide +kernel, by decide +kernel⟩
noncomputable def m_law_pick (v_left : (List Int)) (v_many : Int) : Option (Int × (List Int)) :=
  ((getI v_left (2 : Int)).bind fun t1 => ((setI v_left (2 : Int) (t1 + (1 : Int))).bind fun c3 => ((getI c3 (0 : Int)).bind fun t5 => (cond (decide ((0 : Int) < t5)) (((getI c3 (0 : Int)).bind fun t7 => ((modG t7 v_many).bind fun t9 => ((getI c3 (0 : Int)).bind fun t11 => ((fdivG t11 v_many).bind fun t13 => ((setI c3 (0 : Int) t13).bind fun c15 => some (t9, c15))))))) (((getI c3 (1 : Int)).bind fun t17 => ((getI c3 (2 : Int)).bind fun t19 => ((m_law_mix t17 t19).bind fun t21 => ((getI c3 (2 : Int)).bind fun t23 => ((m_law_mix t21 (t23 + (64 : Int))).bind fun t25 => ((fdivG t25 (64 : Int)).bind fun t27 => ((modG t27 v_many).bind fun t29 => some (t29, c3)))))))))))))
def pf_m_law_pick : Pf := fun as m R => ∃ (l_left : Addr) (v_left : (List Int)) (v_many : Int) (r_ : Int) (w_left : (List Int)), m_law_pick v_left v_many = some (r_, w_left) ∧ as = [.rf l_left, .da (dI v_many)] ∧ m = [(l_left, .ls (List.map dI v_left))] ∧ R = fun c m2 => c = .da (dI r_) ∧ m2 = [(l_left, .ls (List.map dI w_left))]
abbrev sm_law_pick : Stmt := topS 13
abbrev N_m_law_pick : List Str := ["left", "many", "digit"]
theorem sc_m_law_pick : FnScope N_m_law_pick ["left", "many"] (defScope sm_law_pick) := ⟨rfl, rfl, rfl, by decide +kernel, rfl, by decide +kernel, by decide +kernel⟩
noncomputable def m_law_kind (v_left : (List Int)) : Option ((Int × Int) × (List Int)) :=
  ((m_law_pick v_left (8 : Int)).bind fun (t1, c2) => ((getI ([(1 : Int), (2 : Int), (3 : Int), (3 : Int), (3 : Int), (4 : Int), (5 : Int), (2 : Int)] : (List Int)) t1).bind fun t4 => ((m_law_pick c2 (6 : Int)).bind fun (t6, c7) => ((getI ([(3 : Int), (6 : Int), (20 : Int), (256 : Int), (1000 : Int), (10 : Int)] : (List Int)) t6).bind fun t9 => some ((t4, t9), c7)))))
def pf_m_law_kind : Pf := fun as m R => ∃ (l_left : Addr) (v_left : (List Int)) (r_ : (Int × Int)) (w_left : (List Int)), m_law_kind v_left = some (r_, w_left) ∧ as = [.rf l_left] ∧ m = [(l_left, .ls (List.map dI v_left))] ∧ R = fun c m2 => c = .da ((dP dI dI) r_) ∧ m2 = [(l_left, .ls (List.map dI w_left))]
abbrev sm_law_kind : Stmt := topS 14
abbrev N_m_law_kind : List Str := ["left"]
theorem sc_m_law_kind : FnScope N_m_law_kind ["left"] (defScope sm_law_kind) := ⟨rfl, rfl, rfl, by decide +kernel, rfl, by decide +kernel, by decide +kernel⟩
noncomputable def m_law_colour (v_left : (List Int)) (v_kind : (Int × Int)) : Option ((List Int) × (List Int)) :=
  ((rngG 0 (v_kind).1).bind fun rg1 => ((lenG (List.length rg1)).bind fun u12 => ((mapS (fun (s_ : (List Int)) => (fun (v_place3 : Int) => (fun (s16 : (List Int)) => ((m_law_pick s16 (v_kind).2).bind fun (t17, c18) => ((m_law_pick c18 (8 : Int)).bind fun (t20, c21) => ((getI ([t17, (999 : Int)] : (List Int)) (b2 (decide (t20 = (0 : Int))))).bind fun t23 => some (t23, c21))))) s_)) v_left rg1).bind fun (o15, c14) => some (o15, c14))))
def pf_m_law_colour : Pf := fun as m R => ∃ (l_left : Addr) (v_left : (List Int)) (v_kind : (Int × Int)) (r_ : (List Int)) (w_left : (List Int)), m_law_colour v_left v_kind = some (r_, w_left) ∧ as = [.rf l_left, .da ((dP dI dI) v_kind)] ∧ m = [(l_left, .ls (List.map dI v_left))] ∧ R = fun c m2 => c = .da ((dU dI) r_) ∧ m2 = [(l_left, .ls (List.map dI w_left))]
abbrev sm_law_colour : Stmt := topS 15
abbrev N_m_law_colour : List Str := ["left", "kind", "wide", "span", "place"]
theorem sc_m_law_colour : FnScope N_m_law_colour ["left", "kind"] (defScope sm_law_colour) := ⟨rfl, rfl, rfl, by decide +kernel, rfl, by decide +kernel, by decide +kernel⟩
noncomputable def m_law_palette (v_left : (List Int)) (v_kind : (Int × Int)) : Option ((List (List Int)) × (List Int)) :=
  ((m_law_pick v_left (31 : Int)).bind fun (t1, c2) => ((m_law_pick c2 (8 : Int)).bind fun (t4, c5) => ((getI ([(1 : Int), (2 : Int), (3 : Int), (4 : Int), (5 : Int), (7 : Int), (9 : Int), ((10 : Int) + t1)] : (List Int)) t4).bind fun t7 => ((rngG 0 t7).bind fun rg10 => ((forF (fun (s_ : (List Int) × (List (List Int))) => (fun (v_k12 : Int) => (fun (c13 : (List Int)) (c14 : (List (List Int))) => ((m_law_colour c13 v_kind).bind fun (t39, c40) => ((cond (!decide (c14 = ([] : (List (List Int))))) (((m_law_pick c40 (6 : Int)).bind fun (t42, c43) => some ((decide (t42 = (0 : Int))), c43))) (some (false, c40))).bind fun (b45, c46) => ((cond b45 (((m_law_pick c46 (List.length c14 : Int)).bind fun (t55, c56) => ((getI c14 t55).bind fun t58 => some (t58, c56)))) (some (t39, c46))).bind fun (v_colour53, c54) => ((lenG (List.length c14)).bind fun u61 => some (c54, (c14 ++ [v_colour53]))))))) s_.1 s_.2)) (c5, ([] : (List (List Int)))) rg10).bind fun (c63, c64) => some (c64, c63))))))
def pf_m_law_palette : Pf := fun as m R => ∃ (l_left : Addr) (v_left : (List Int)) (v_kind : (Int × Int)) (r_ : (List (List Int))) (w_left : (List Int)), m_law_palette v_left v_kind = some (r_, w_left) ∧ as = [.rf l_left, .da ((dP dI dI) v_kind)] ∧ m = [(l_left, .ls (List.map dI v_left))] ∧ R = fun c m2 => c = .da ((dL (dU dI)) r_) ∧ m2 = [(l_left, .ls (List.map dI w_left))]
abbrev sm_law_palette : Stmt := topS 16
abbrev N_m_law_palette : List Str := ["left", "kind", "many", "found", "k", "colour"]
theorem sc_m_law_palette : FnScope N_m_law_palette ["left", "kind"] (defScope sm_law_palette) := ⟨rfl, rfl, rfl, by decide +kernel, rfl, by decide +kernel, by decide +kernel⟩
noncomputable def m_law_picture (v_left : (List Int)) (v_kind : (Int × Int)) : Option ((List (List (List Int))) × (List Int)) :=
  ((rngG 0 (2 : Int)).bind fun rg1 => ((lenG (List.length rg1)).bind fun u15 => ((mapS (fun (s_ : (List Int)) => (fun (v_side3 : Int) => (fun (s19 : (List Int)) => ((m_law_pick s19 (6 : Int)).bind fun (t20, c21) => ((m_law_pick c21 (16 : Int)).bind fun (t23, c24) => ((m_law_pick c24 (8 : Int)).bind fun (t26, c27) => ((getI ([((1 : Int) + t20), ((1 : Int) + t23)] : (List Int)) (b2 (decide (t26 = (0 : Int))))).bind fun t29 => some (t29, c27)))))) s_)) v_left rg1).bind fun (o18, c17) => ((two o18).bind fun (w32, w33) => ((m_law_pick c17 (8 : Int)).bind fun (t35, c36) => ((rngG 0 ((1 : Int) + t35)).bind fun rg38 => ((lenG (List.length rg38)).bind fun u44 => ((mapS (fun (s_ : (List Int)) => (fun (v_k40 : Int) => (fun (s48 : (List Int)) => ((m_law_colour s48 v_kind).bind fun (t49, c50) => some (t49, c50))) s_)) c36 rg38).bind fun (o47, c46) => ((rngG 0 w32).bind fun rg54 => ((forF (fun (s_ : (List Int) × (List (List (List Int)))) => (fun (v_row56 : Int) => (fun (c57 : (List Int)) (c58 : (List (List (List Int)))) => ((rngG 0 w33).bind fun rg131 => ((forF (fun (s_ : (List Int) × (List (List Int))) => (fun (v_column133 : Int) => (fun (c156 : (List Int)) (c157 : (List (List Int))) => ((m_law_pick c156 (List.length o47 : Int)).bind fun (t177, c178) => ((getI o47 t177).bind fun t180 => ((m_law_pick c178 (4 : Int)).bind fun (t182, c183) => ((cond (decide (t182 = (0 : Int))) (((m_law_colour c183 v_kind).bind fun (t190, c191) => some (t190, c191))) (some (t180, c183))).bind fun (v_colour188, c189) => ((lenG (List.length c157)).bind fun u194 => some (c189, (c157 ++ [v_colour188])))))))) s_.1 s_.2)) (c57, ([] : (List (List Int)))) rg131).bind fun (c196, c197) => ((lenG (List.length c58)).bind fun u198 => some (c196, (c58 ++ [c197])))))) s_.1 s_.2)) (c46, ([] : (List (List (List Int))))) rg54).bind fun (c201, c202) => some (c202, c201)))))))))))
def pf_m_law_picture : Pf := fun as m R => ∃ (l_left : Addr) (v_left : (List Int)) (v_kind : (Int × Int)) (r_ : (List (List (List Int)))) (w_left : (List Int)), m_law_picture v_left v_kind = some (r_, w_left) ∧ as = [.rf l_left, .da ((dP dI dI) v_kind)] ∧ m = [(l_left, .ls (List.map dI v_left))] ∧ R = fun c m2 => c = .da ((dL (dL (dU dI))) r_) ∧ m2 = [(l_left, .ls (List.map dI w_left))]
abbrev sm_law_picture : Stmt := topS 17
abbrev N_m_law_picture : List Str := ["left", "kind", "high", "wide", "some", "found", "row", "spots", "column", "colour", "side", "k"]
theorem sc_m_law_picture : FnScope N_m_law_picture ["left", "kind"] (defScope sm_law_picture) := ⟨rfl, rfl, rfl, by decide +kernel, rfl, by decide +kernel, by decide +kernel⟩
noncomputable def m_law_shares (v_left : (List Int)) : Option ((List (Int × Int × Int)) × (List Int)) :=
  ((m_law_pick v_left (4 : Int)).bind fun (t1, c2) => (cond (decide (t1 = (0 : Int))) (some (([((1 : Int), (0 : Int), (7 : Int)), ((-(1 : Int)), (1 : Int), (3 : Int)), ((0 : Int), (1 : Int), (5 : Int)), ((1 : Int), (1 : Int), (1 : Int))] : (List (Int × Int × Int))), c2)) (((rngG (-(2 : Int)) (3 : Int)).bind fun rg5 => ((lenG (List.length rg5)).bind fun u8 => ((lenG (List.length ([((1 : Int), (0 : Int)), ((2 : Int), (0 : Int))] : (List (Int × Int))) + List.length (List.map (fun (v_across7 : Int) => (v_across7, (1 : Int))) rg5))).bind fun u10 => ((rngG (-(2 : Int)) (3 : Int)).bind fun rg12 => ((lenG (List.length rg12)).bind fun u15 => ((lenG (List.length (([((1 : Int), (0 : Int)), ((2 : Int), (0 : Int))] : (List (Int × Int))) ++ (List.map (fun (v_across7 : Int) => (v_across7, (1 : Int))) rg5)) + List.length (List.map (fun (v_across14 : Int) => (v_across14, (2 : Int))) rg12))).bind fun u17 => ((m_law_pick c2 (5 : Int)).bind fun (t20, c21) => ((m_law_pick c21 (8 : Int)).bind fun (t23, c24) => ((getI ([t20, (12 : Int)] : (List Int)) (b2 (decide (t23 = (0 : Int))))).bind fun t26 => ((rngG 0 t26).bind fun rg28 => ((forF (fun (s_ : (List Int) × (List (Int × Int)) × (List (Int × Int × Int))) => (fun (v_turn30 : Int) => (fun (c31 : (List Int)) (c32 : (List (Int × Int))) (c33 : (List (Int × Int × Int))) => ((m_law_pick c31 (List.length c32 : Int)).bind fun (t50, c51) => ((popI c32 t50).bind fun (t53, c54) => ((m_law_pick c51 (64 : Int)).bind fun (t56, c57) => ((m_law_pick c57 (5 : Int)).bind fun (t59, c60) => ((getI ([(1 : Int), (2 : Int), (3 : Int), (64 : Int), ((1 : Int) + t56)] : (List Int)) t59).bind fun t62 => ((lenG (List.length c33)).bind fun u64 => some (c60, c54, (c33 ++ [((t53).1, (t53).2, t62)]))))))))) s_.1 s_.2.1 s_.2.2)) (c24, ((([((1 : Int), (0 : Int)), ((2 : Int), (0 : Int))] : (List (Int × Int))) ++ (List.map (fun (v_across7 : Int) => (v_across7, (1 : Int))) rg5)) ++ (List.map (fun (v_across14 : Int) => (v_across14, (2 : Int))) rg12)), ([] : (List (Int × Int × Int)))) rg28).bind fun (c66, c67, c68) => some (c68, c66)))))))))))))))
def pf_m_law_shares : Pf := fun as m R => ∃ (l_left : Addr) (v_left : (List Int)) (r_ : (List (Int × Int × Int))) (w_left : (List Int)), m_law_shares v_left = some (r_, w_left) ∧ as = [.rf l_left] ∧ m = [(l_left, .ls (List.map dI v_left))] ∧ R = fun c m2 => c = .da ((dL (d3 dI dI dI)) r_) ∧ m2 = [(l_left, .ls (List.map dI w_left))]
abbrev sm_law_shares : Stmt := topS 18
abbrev N_m_law_shares : List Str := ["left", "across", "rest", "found", "turn", "down"]
theorem sc_m_law_shares : FnScope N_m_law_shares ["left"] (defScope sm_law_shares) := ⟨rfl, rfl, rfl, by decide +kernel, rfl, by decide +kernel, by decide +kernel⟩
noncomputable def m_law_turns (v_high : Int) (v_wide : Int) (v_way : Str) : Option ((List (Int × Int × Int))) :=
  ((rngG 0 v_high).bind fun rg2 => ((forF (fun (s_ : (List (Int × Int × Int))) => (fun (v_row4 : Int) => (fun (c5 : (List (Int × Int × Int))) => ((modG v_row4 (2 : Int)).bind fun t26 => ((mulG t26 (b2 (decide (v_way = (Str.ofString "turned"))))).bind fun t28 => ((getI ([(1 : Int), (-(1 : Int))] : (List Int)) t28).bind fun t30 => ((rngG 0 v_wide).bind fun rg32 => ((forF (fun (s_ : (List (Int × Int × Int))) => (fun (v_step34 : Int) => (fun (c35 : (List (Int × Int × Int))) => ((getI ([v_step34, ((v_wide - (1 : Int)) - v_step34)] : (List Int)) (b2 (decide (t30 = (-(1 : Int)))))).bind fun t40 => ((lenG (List.length c35)).bind fun u42 => some (c35 ++ [(v_row4, t40, t30)])))) s_)) c5 rg32).bind fun c44 => some c44)))))) s_)) ([] : (List (Int × Int × Int))) rg2).bind fun c46 => some c46))
def pf_m_law_turns : Pf := fun as m R => ∃ (v_high : Int) (v_wide : Int) (v_way : Str) (r_ : (List (Int × Int × Int))), m_law_turns v_high v_wide v_way = some r_ ∧ as = [.da (dI v_high), .da (dI v_wide), .da (dS v_way)] ∧ m = [] ∧ R = fun c m2 => c = .da ((dL (d3 dI dI dI)) r_) ∧ m2 = []
abbrev sm_law_turns : Stmt := topS 19
abbrev N_m_law_turns : List Str := ["high", "wide", "way", "found", "row", "side", "step"]
theorem sc_m_law_turns : FnScope N_m_law_turns ["high", "wide", "way"] (defScope sm_law_turns) := ⟨rfl, rfl, rfl, by decide +kernel, rfl, by decide +kernel, by decide +kernel⟩
noncomputable def m_law_pieces (v_rest : Int) (v_shares : (List (Int × Int × Int))) (v_spot : (Int × Int × Int)) (v_high : Int) (v_wide : Int) : Option ((List (Int × Int × Int))) :=
  ((lenG (List.length v_shares)).bind fun u3 => ((some (List.sum (List.map (fun (v_share2 : (Int × Int × Int)) => (v_share2).2.2) v_shares))).bind fun v_total5 => ((forF (fun (s_ : (List (Int × Int × Int))) => (fun (p_ : (Int × Int × Int)) => (fun (v_across7 : Int) (v_down8 : Int) (v_more9 : Int) => (fun (c10 : (List (Int × Int × Int))) => ((mulG (v_spot).2.2 v_across7).bind fun t33 => ((some (((v_spot).1 + v_down8), ((v_spot).2.1 + t33))).bind fun v_there35 => ((cond ((decide ((v_there35).1 < v_high)) && (decide ((0 : Int) ≤ (v_there35).2 ∧ (v_there35).2 < v_wide))) (((mulG v_rest v_more9).bind fun t46 => ((fdivG t46 v_total5).bind fun t48 => ((lenG (List.length ([(v_there35).1, (v_there35).2] : List Int) + List.length ([t48] : List Int))).bind fun u50 => ((lenG (List.length c10)).bind fun u52 => some (c10 ++ [((v_there35).1, (v_there35).2, t48)])))))) (some c10)).bind fun c45 => some c45)))) s_) p_.1 p_.2.1 p_.2.2)) ([] : (List (Int × Int × Int))) v_shares).bind fun c55 => (cond (decide (c55 = ([] : (List (Int × Int × Int))))) (some c55) (((lenG (List.length c55)).bind fun u57 => ((some (v_rest - (List.sum (List.map (fun (v_piece56 : (Int × Int × Int)) => (v_piece56).2.2) c55)))).bind fun v_remains59 => ((getI c55 (0 : Int)).bind fun t61 => ((getI c55 (0 : Int)).bind fun t63 => ((lenG (List.length ([(((t61).1, (t61).2.1)).1, (((t61).1, (t61).2.1)).2] : List Int) + List.length ([((t63).2.2 + v_remains59)] : List Int))).bind fun u65 => ((lenG (List.length ([((((t61).1, (t61).2.1)).1, (((t61).1, (t61).2.1)).2, ((t63).2.2 + v_remains59))] : (List (Int × Int × Int))) + List.length (cutI c55 (some (1 : Int)) none))).bind fun u67 => some (([((((t61).1, (t61).2.1)).1, (((t61).1, (t61).2.1)).2, ((t63).2.2 + v_remains59))] : (List (Int × Int × Int))) ++ (cutI c55 (some (1 : Int)) none)))))))))))))
def pf_m_law_pieces : Pf := fun as m R => ∃ (v_rest : Int) (v_shares : (List (Int × Int × Int))) (v_spot : (Int × Int × Int)) (v_high : Int) (v_wide : Int) (r_ : (List (Int × Int × Int))), m_law_pieces v_rest v_shares v_spot v_high v_wide = some r_ ∧ as = [.da (dI v_rest), .da ((dL (d3 dI dI dI)) v_shares), .da ((d3 dI dI dI) v_spot), .da (dI v_high), .da (dI v_wide)] ∧ m = [] ∧ R = fun c m2 => c = .da ((dL (d3 dI dI dI)) r_) ∧ m2 = []
abbrev sm_law_pieces : Stmt := topS 20
abbrev N_m_law_pieces : List Str := ["rest", "shares", "spot", "high", "wide", "row", "column", "side", "found", "total", "across", "down", "more", "there", "remains", "share", "piece"]
theorem sc_m_law_pieces : FnScope N_m_law_pieces ["rest", "shares", "spot", "high", "wide"] (defScope sm_law_pieces) := ⟨rfl, rfl, rfl, by decide +kernel, rfl, by decide +kernel, by decide +kernel⟩
noncomputable def m_law_place_right (v_picture : (List (List (List Int)))) (v_palette : (List (List Int))) (v_shares : (List (Int × Int × Int))) (v_way : Str) (v_numbers : (List (List Int))) (v_wanted : (List (List (List Int)))) (v_place : Int) : Option ((Option Int)) :=
  ((getI v_picture (0 : Int)).bind fun t1 => ((lenG (List.length v_picture)).bind fun u7 => ((mapO (fun (v_row4 : (List (List Int))) => ((repI ([(0 : Int)] : (List Int)) (((List.length v_picture : Int), (List.length t1 : Int))).2).bind fun t5 => some t5)) v_picture).bind fun o9 => ((m_law_turns (((List.length v_picture : Int), (List.length t1 : Int))).1 (((List.length v_picture : Int), (List.length t1 : Int))).2 v_way).bind fun t11 => ((forC (R := (Option Int)) (fun (s_ : Int × (List (List Int))) => (fun (p_ : (Int × Int × Int)) => (fun (v_row13 : Int) (v_column14 : Int) (v_side15 : Int) => (fun (v_lost16 : Int) (c17 : (List (List Int))) => ((getI v_wanted v_row13).bind fun t71 => ((getI t71 v_column14).bind fun t73 => ((getI t73 v_place).bind fun t75 => ((getI v_picture v_row13).bind fun t77 => ((getI t77 v_column14).bind fun t79 => ((getI t79 v_place).bind fun t81 => ((nget c17 v_row13 v_column14).bind fun t83 => (cond (!decide ((t75 - t81) = t83)) (some (Ctl.rt (none : (Option Int)))) (((getI v_numbers v_row13).bind fun t85 => ((getI t85 v_column14).bind fun t87 => ((getI v_palette t87).bind fun t89 => ((getI t89 v_place).bind fun t91 => ((some (t75 - t91)).bind fun v_rest93 => ((m_law_pieces v_rest93 v_shares (v_row13, v_column14, v_side15) (((List.length v_picture : Int), (List.length t1 : Int))).1 (((List.length v_picture : Int), (List.length t1 : Int))).2).bind fun t95 => ((forF (fun (s_ : (List (List Int))) => (fun (p_ : (Int × Int × Int)) => (fun (v_further97 : Int) (v_there98 : Int) (v_piece99 : Int) => (fun (c100 : (List (List Int))) => ((nget c100 v_further97 v_there98).bind fun t105 => ((nset c100 v_further97 v_there98 (t105 + v_piece99)).bind fun c107 => some c107))) s_) p_.1 p_.2.1 p_.2.2)) c17 t95).bind fun c109 => ((show Option (Ctl (Int) ((Option Int))) from cond (decide (t95 = ([] : (List (Int × Int × Int))))) (((some (v_lost16 + v_rest93)).bind fun v_lost115 => some (Ctl.nx v_lost115))) (((lenG (List.length t95)).bind fun u118 => (cond (!decide ((List.sum (List.map (fun (v_piece117 : (Int × Int × Int)) => (v_piece117).2.2) t95)) = v_rest93)) (some (Ctl.rt (none : (Option Int)))) (some (Ctl.nx v_lost16)))))).bind fun k121 => ctlK k121 (fun (s_ : Int) => (fun (v_lost120 : Int) => some (Ctl.nx (v_lost120, c109))) s_) (fun r_ => some (Ctl.rt r_)))))))))))))))))))) s_.1 s_.2) p_.1 p_.2.1 p_.2.2)) ((0 : Int), o9) t11).bind fun k127 => ctlK k127 (fun (s_ : Int × (List (List Int))) => (fun (v_lost124 : Int) (c125 : (List (List Int))) => some (some v_lost124)) s_.1 s_.2) (fun r_ => some r_))))))
def pf_m_law_place_right : Pf := fun as m R => ∃ (v_picture : (List (List (List Int)))) (v_palette : (List (List Int))) (v_shares : (List (Int × Int × Int))) (v_way : Str) (v_numbers : (List (List Int))) (v_wanted : (List (List (List Int)))) (v_place : Int) (r_ : (Option Int)), m_law_place_right v_picture v_palette v_shares v_way v_numbers v_wanted v_place = some r_ ∧ as = [.da ((dL (dL (dU dI))) v_picture), .da ((dL (dU dI)) v_palette), .da ((dL (d3 dI dI dI)) v_shares), .da (dS v_way), .da ((dL (dL dI)) v_numbers), .da ((dL (dL (dU dI))) v_wanted), .da (dI v_place)] ∧ m = [] ∧ R = fun c m2 => c = .da ((dO dI) r_) ∧ m2 = []
abbrev sm_law_place_right : Stmt := topS 21
abbrev N_m_law_place_right : List Str := ["picture", "palette", "shares", "way", "numbers", "wanted", "place", "high", "wide", "row", "handed", "lost", "column", "side", "here", "rest", "pieces", "further", "there", "piece"]
theorem sc_m_law_place_right : FnScope N_m_law_place_right ["picture", "palette", "shares", "way", "numbers", "wanted", "place"] (defScope sm_law_place_right) := ⟨rfl, rfl, rfl, by decide +kernel, rfl, by decide +kernel, by decide +kernel⟩
noncomputable def m_law_walked (v_picture : (List (List (List Int)))) (v_palette : (List (List Int))) (v_shares : (List (Int × Int × Int))) (v_way : Str) (v_numbers : (List (List Int))) : Option ((List (Option Int))) :=
  ((m_wanted_by v_picture v_palette v_shares v_way v_numbers).bind fun t1 => ((getI v_palette (0 : Int)).bind fun t4 => ((rngG 0 (List.length t4 : Int)).bind fun rg6 => ((forF (fun (s_ : (List (Option Int))) => (fun (v_place8 : Int) => (fun (c9 : (List (Option Int))) => ((m_law_place_right v_picture v_palette v_shares v_way v_numbers t1 v_place8).bind fun t14 => ((lenG (List.length c9)).bind fun u16 => some (c9 ++ [t14])))) s_)) ([] : (List (Option Int))) rg6).bind fun c18 => some c18))))
def pf_m_law_walked : Pf := fun as m R => ∃ (v_picture : (List (List (List Int)))) (v_palette : (List (List Int))) (v_shares : (List (Int × Int × Int))) (v_way : Str) (v_numbers : (List (List Int))) (r_ : (List (Option Int))), m_law_walked v_picture v_palette v_shares v_way v_numbers = some r_ ∧ as = [.da ((dL (dL (dU dI))) v_picture), .da ((dL (dU dI)) v_palette), .da ((dL (d3 dI dI dI)) v_shares), .da (dS v_way), .da ((dL (dL dI)) v_numbers)] ∧ m = [] ∧ R = fun c m2 => c = .da ((dU (dO dI)) r_) ∧ m2 = []
abbrev sm_law_walked : Stmt := topS 22
abbrev N_m_law_walked : List Str := ["picture", "palette", "shares", "way", "numbers", "wanted", "found", "place"]
theorem sc_m_law_walked : FnScope N_m_law_walked ["picture", "palette", "shares", "way", "numbers"] (defScope sm_law_walked) := ⟨rfl, rfl, rfl, by decide +kernel, rfl, by decide +kernel, by decide +kernel⟩
noncomputable def m_law_sums_right (v_picture : (List (List (List Int)))) (v_palette : (List (List Int))) (v_numbers : (List (List Int))) (v_lost : (List Int)) : Option (Bool) :=
  ((rngG 0 (List.length v_lost : Int)).bind fun rg1 => ((forC (R := Bool) (fun (s_ : Unit) => (fun (v_place3 : Int) => ((lenG (List.length v_picture)).bind fun u44 => ((mapO (fun (v_row36 : (List (List Int))) => ((lenG (List.length v_row36)).bind fun u40 => ((mapO (fun (v_colour37 : (List Int)) => ((getI v_colour37 v_place3).bind fun t38 => some t38)) v_row36).bind fun o42 => some (List.sum o42)))) v_picture).bind fun o46 => ((some (List.sum o46)).bind fun v_own48 => ((lenG (List.length v_numbers)).bind fun u60 => ((mapO (fun (v_row50 : (List Int)) => ((lenG (List.length v_row50)).bind fun u56 => ((mapO (fun (v_number51 : Int) => ((getI v_palette v_number51).bind fun t52 => ((getI t52 v_place3).bind fun t54 => some t54))) v_row50).bind fun o58 => some (List.sum o58)))) v_numbers).bind fun o62 => ((some (List.sum o62)).bind fun v_told64 => ((getI v_lost v_place3).bind fun t66 => (cond (!decide (v_own48 = (v_told64 + t66))) (some (Ctl.rt false)) (some (Ctl.nx ())))))))))))) () rg1).bind fun k70 => ctlK k70 (fun (_ : Unit) => some true) (fun r_ => some r_)))
def pf_m_law_sums_right : Pf := fun as m R => ∃ (v_picture : (List (List (List Int)))) (v_palette : (List (List Int))) (v_numbers : (List (List Int))) (v_lost : (List Int)) (r_ : Bool), m_law_sums_right v_picture v_palette v_numbers v_lost = some r_ ∧ as = [.da ((dL (dL (dU dI))) v_picture), .da ((dL (dU dI)) v_palette), .da ((dL (dL dI)) v_numbers), .da ((dU dI) v_lost)] ∧ m = [] ∧ R = fun c m2 => c = .da (dB r_) ∧ m2 = []
abbrev sm_law_sums_right : Stmt := topS 23
abbrev N_m_law_sums_right : List Str := ["picture", "palette", "numbers", "lost", "place", "own", "told", "row", "colour", "number"]
theorem sc_m_law_sums_right : FnScope N_m_law_sums_right ["picture", "palette", "numbers", "lost"] (defScope sm_law_sums_right) := ⟨rfl, rfl, rfl, by decide +kernel, rfl, by decide +kernel, by decide +kernel⟩
noncomputable def m_law (v_script : (List Int)) : Option (Bool) :=
  ((rngG 0 ((min2 (3 : Int) (List.length v_script : Int)) + (1 : Int))).bind fun rg1 => ((forC (R := Bool) (fun (s_ : Unit) => (fun (v_k3 : Int) => ((m_law_left v_script v_k3).bind fun c86 => ((getI c86 (1 : Int)).bind fun t88 => ((setI c86 (1 : Int) (t88 + (1000 : Int))).bind fun c90 => ((m_law_kind c90).bind fun (t92, c93) => ((m_law_picture c93 t92).bind fun (t95, c96) => ((m_law_palette c96 t92).bind fun (t98, c99) => ((m_law_shares c99).bind fun (t101, c102) => ((lenG (List.length t95)).bind fun u118 => ((mapS (fun (s_ : (List Int)) => (fun (v_row104 : (List (List Int))) => (fun (s122 : (List Int)) => ((lenG (List.length v_row104)).bind fun u127 => ((mapS (fun (s_ : (List Int)) => (fun (v_colour123 : (List Int)) => (fun (s131 : (List Int)) => ((m_law_pick s131 (List.length t98 : Int)).bind fun (t132, c133) => some (t132, c133))) s_)) s122 v_row104).bind fun (o130, c129) => some (o130, c129)))) s_)) c102 t95).bind fun (o121, c120) => ((forC (R := Bool) (fun (s_ : Unit) => (fun (v_way137 : Str) => ((m_handed_on t95 t98 t101 v_way137).bind fun t155 => ((m_law_walked t95 t98 t101 v_way137 (t155).1).bind fun t157 => (cond (!decide ((List.map some (t155).2) = t157)) (some (Ctl.rt false)) (((m_law_sums_right t95 t98 (t155).1 (t155).2).bind fun t159 => (cond (!t159) (some (Ctl.rt false)) (((m_law_walked t95 t98 t101 v_way137 o121).bind fun t161 => (cond (memB (none : (Option Int)) t161) (some (Ctl.rt false)) (some (Ctl.nx ()))))))))))))) () ([(Str.ofString "same"), (Str.ofString "turned")] : (List Str))).bind fun k165 => ctlK k165 (fun (_ : Unit) => some (Ctl.nx ())) (fun r_ => some (Ctl.rt r_)))))))))))))) () rg1).bind fun k168 => ctlK k168 (fun (_ : Unit) => some true) (fun r_ => some r_)))
def pf_m_law : Pf := fun as m R => ∃ (l_script : Addr) (v_script : (List Int)) (r_ : Bool), m_law v_script = some r_ ∧ as = [.sl l_script v_script] ∧ m = [] ∧ R = fun c m2 => c = .da (dB r_) ∧ m2 = []
abbrev sm_law : Stmt := topS 24
abbrev N_m_law : List Str := ["script", "k", "left", "kind", "picture", "palette", "shares", "drawn", "way", "numbers", "lost", "row", "colour"]
theorem sc_m_law : FnScope N_m_law ["script"] (defScope sm_law) := ⟨rfl, rfl, rfl, by decide +kernel, rfl, by decide +kernel, by decide +kernel⟩
end K83
set_option maxHeartbeats 2000000
namespace K83
open PySem PySem.Spec PyProof.Rows L2 Evl FC
theorem ok_m_apart {P : Program} {w : World} {K : PySem.W.Frag} {mg : Str → Option Value} {base : Heap} {f : Addr} {fd : FuncData} (FF : Fun K "apart" "apart" sm_apart f fd) (n_sum : mg "sum" = none) (n_zip : mg "zip" = none) : FnOk P w K mg base CX0 1 f fd ["one", "other"] (spOf K (pf_m_apart)) := by
  refine ok_of (N := N_m_apart) FF sc_m_apart (fun as m R hG => ?_) (fun cdv A outer s H E hr => ?_)
  · obtain ⟨v_one, v_other, r_, _, rfl, _⟩ := hG
    rfl
  · have nd : (N_m_apart : List Str).Nodup := sc_m_apart.nd
    refine ⟨_, (pss_cons (ps_ret (pe_callB (kCa (r := rSum) (K := K) (cr_sum rfl) rfl) (by rfl) n_sum (by decide +kernel) (pa_cons (pe_lc (own := [("a", 2), ("b", 3)]) (g := gTup K 2 (gCons (gName 2) (gCons (gName 3) gNil))) (tt := tYes) rfl nd (kPi (r := fun K => RZ.iZipA K _) (K := K) (RZ.pi_zipA (by rfl) n_zip (pa_cons (pv 0) (pa_cons (pv 1) pa_nil))) rfl) (blkOk_by (own := [("a", 2), ("b", 3)]) (N := N_m_apart) (sc := (defScope sm_apart)) (by decide +kernel)) (fun _ _ _ _ _ => (pg_tup rfl (pgs_cons (pg_name (i := 2) nd rfl (by first | exact Or.inl rfl | exact Or.inr rfl)) (pgs_cons (pg_name (i := 3) nd rfl (by first | exact Or.inl rfl | exact Or.inr rfl)) pgs_nil)))) (fun _ _ _ _ _ => pts_nil) (fun _ _ _ _ _ => (pe_op op_mulA (pe_op op_sub (pv 2) (pv 3)) (pe_op op_sub (pv 2) (pv 3))))) pa_nil))) pss_nil), ?_⟩
    rintro as m R ⟨v_one, v_other, r_, h0, rfl, rfl, rfl⟩ F D rfl hk hfin hnx
    unfold m_apart at h0
    show Wp _ _ _ [.da ((dU dI) v_one), .da ((dU dI) v_other), .un, .un] []
    obtain ⟨u4, q5, h0⟩ := bindS h0
    obtain ⟨o6, q7, h0⟩ := bindS h0
    have e0_ := Option.some.inj h0
    subst e0_
    exact wp_retS (ev_cb (ea_cons (lc_end (lc_map (f2 := dI) (src_ZU (f := dI) (f2 := dI) (j := 2) (k := 3) (ea_cons (ev_var (i := 0) rfl) (ea_cons (ev_var (i := 1) rfl) ea_nil))) (by decide) (fun _ => True.intro) q5 q7 (by rintro ⟨v_a1, v_b1⟩ y_ hx_ h_; obtain ⟨t2, q3, h_⟩ := bindS h_; cases h_; exact (ev_op (ev_op (ev_var (i := 2) rfl) (ev_var (i := 3) rfl) rr_i) (ev_op (ev_var (i := 2) rfl) (ev_var (i := 3) rfl) rr_i) (rr_mul q3))))) ea_nil) rc_sum) hfin ⟨rfl, rfl⟩ (List.nil_sublist _)
end K83
set_option maxHeartbeats 2000000
namespace K83
open PySem PySem.Spec PyProof.Rows L2 Evl FC
theorem ok_m_squares_by {P : Program} {w : World} {K : PySem.W.Frag} {mg : Str → Option Value} {base : Heap} {f : Addr} {fd : FuncData} (FF : Fun K "squares_by" "squares_by" sm_squares_by f fd) {f_m_apart : Addr} {fd_m_apart : FuncData} (G_m_apart : FnOk P w K mg base CX0 1 f_m_apart fd_m_apart ["one", "other"] (spOf K (pf_m_apart))) (g_m_apart : mg "apart" = some (.ref f_m_apart)) (k_m_apart : PySem.W.keepIn K (.ref f_m_apart) = true) (b_m_apart : Binds K fd_m_apart ["one", "other"] []) (n_enumerate : mg "enumerate" = none) : FnOk P w K mg base CX0 2 f fd ["palette", "colour"] (spOf K (pf_m_squares_by)) := by
  refine ok_of (N := N_m_squares_by) FF sc_m_squares_by (fun as m R hG => ?_) (fun cdv A outer s H E hr => ?_)
  · obtain ⟨v_palette, v_colour, r_, _, rfl, _⟩ := hG
    rfl
  · have nd : (N_m_squares_by : List Str).Nodup := sc_m_squares_by.nd
    refine ⟨_, (pss_cons (ps_ret (pe_lc (own := [("number", 2), ("one", 3)]) (g := gTup K 2 (gCons (gName 2) (gCons (gName 3) gNil))) (tt := tYes) rfl nd (kPi (r := fun K => iEnum K _) (K := K) (pi_enum (by rfl) n_enumerate (pa_cons (pv 0) pa_nil)) rfl) (blkOk_by (own := [("number", 2), ("one", 3)]) (N := N_m_squares_by) (sc := (defScope sm_squares_by)) (by decide +kernel)) (fun _ _ _ _ _ => (pg_tup rfl (pgs_cons (pg_name (i := 2) nd rfl (by first | exact Or.inl rfl | exact Or.inr rfl)) (pgs_cons (pg_name (i := 3) nd rfl (by first | exact Or.inl rfl | exact Or.inr rfl)) pgs_nil)))) (fun _ _ _ _ _ => pts_nil) (fun _ _ _ _ _ => (pe_tup (pa_cons (pe_call G_m_apart (hr.mono (by decide)) (by rfl) g_m_apart k_m_apart b_m_apart .nil pass0 (pa_cons (pv 3) (pa_cons (pv 1) pa_nil))) (pa_cons (pv 2) pa_nil)))))) pss_nil), ?_⟩
    rintro as m R ⟨v_palette, v_colour, r_, h0, rfl, rfl, rfl⟩ F D rfl hk hfin hnx
    unfold m_squares_by at h0
    show Wp _ _ _ [.da ((dL (dU dI)) v_palette), .da ((dU dI) v_colour), .un, .un] []
    obtain ⟨u4, q5, h0⟩ := bindS h0
    obtain ⟨o6, q7, h0⟩ := bindS h0
    have e0_ := Option.some.inj h0
    subst e0_
    exact wp_retS (lc_end (lc_map (f2 := (dP dI dI)) (src_En (f := (dU dI)) (j := 2) (k := 3) (ea_cons (ev_var (i := 0) rfl) ea_nil)) (by decide) (fun _ => True.intro) q5 q7 (by rintro ⟨v_number1, v_one1⟩ y_ hx_ h_; obtain ⟨t2, q3, h_⟩ := bindS h_; cases h_; exact (show Ev _ _ _ _ (.da ((dP dI dI) (t2, v_number1))) _ from ev_tup (dl := [dI t2, dI v_number1]) (ea_cons (ev_call (ea_cons (ev_var (i := 3) rfl) (ea_cons (ev_var (i := 1) rfl) ea_nil)) ⟨_, ⟨_, _, _, q3, rfl, rfl, rfl⟩, fun _ _ h => h⟩) (ea_cons (ev_var (i := 2) rfl) ea_nil)) (Nat.le_of_ble_eq_true rfl))))) hfin ⟨rfl, rfl⟩ (List.nil_sublist _)
end K83
set_option maxHeartbeats 2000000
namespace K83
open PySem PySem.Spec PyProof.Rows L2 Evl FC
theorem ok_m_nearest {P : Program} {w : World} {K : PySem.W.Frag} {mg : Str → Option Value} {base : Heap} {f : Addr} {fd : FuncData} (FF : Fun K "nearest" "nearest" sm_nearest f fd) {f_m_squares_by : Addr} {fd_m_squares_by : FuncData} (G_m_squares_by : FnOk P w K mg base CX0 2 f_m_squares_by fd_m_squares_by ["palette", "colour"] (spOf K (pf_m_squares_by))) (g_m_squares_by : mg "squares_by" = some (.ref f_m_squares_by)) (k_m_squares_by : PySem.W.keepIn K (.ref f_m_squares_by) = true) (b_m_squares_by : Binds K fd_m_squares_by ["palette", "colour"] []) (n_min : mg "min" = none) : FnOk P w K mg base CX0 3 f fd ["palette", "colour"] (spOf K (pf_m_nearest)) := by
  refine ok_of (N := N_m_nearest) FF sc_m_nearest (fun as m R hG => ?_) (fun cdv A outer s H E hr => ?_)
  · obtain ⟨v_palette, v_colour, r_, _, rfl, _⟩ := hG
    rfl
  · have nd : (N_m_nearest : List Str).Nodup := sc_m_nearest.nd
    refine ⟨_, (pss_cons (ps_ret (pe_ix (kIx (r := rIxT) (K := K) ix_tup rfl) (pe_callB (kCa (r := rMinP) (K := K) (cr_minP rfl hr.units) rfl) (by rfl) n_min (by decide +kernel) (pa_cons (pe_call G_m_squares_by (hr.mono (by decide)) (by rfl) g_m_squares_by k_m_squares_by b_m_squares_by .nil pass0 (pa_cons (pv 0) (pa_cons (pv 1) pa_nil))) pa_nil)) pe_int (fun _ _ => rfl))) pss_nil), ?_⟩
    rintro as m R ⟨v_palette, v_colour, r_, h0, rfl, rfl, rfl⟩ F D rfl hk hfin hnx
    unfold m_nearest at h0
    show Wp _ _ _ [.da ((dL (dU dI)) v_palette), .da ((dU dI) v_colour)] []
    obtain ⟨t1, q2, h0⟩ := bindS h0
    obtain ⟨t3, q4, h0⟩ := bindS h0
    have e0_ := Option.some.inj h0
    subst e0_
    exact wp_retS (ev_op (ev_cb (ea_cons (ev_call (ea_cons (ev_var (i := 0) rfl) (ea_cons (ev_var (i := 1) rfl) ea_nil)) ⟨_, ⟨_, _, _, q2, rfl, rfl, rfl⟩, fun _ _ h => h⟩) ea_nil) (rc_min (f := (dP dI dI)) (by decide) q4)) (ev_int (i := 1)) (rr_ixT (dl := [dI (t3).1, dI (t3).2]) rfl)) hfin ⟨rfl, rfl⟩ (List.nil_sublist _)
end K83
set_option maxHeartbeats 2000000
namespace K83
open PySem PySem.Spec PyProof.Rows L2 Evl FC
theorem ok_m_Handing_init {P : Program} {w : World} {K : PySem.W.Frag} {mg : Str → Option Value} {base : Heap} {f : Addr} {fd : FuncData} (FF : Fun K "__init__" "Handing.__init__" sm_Handing_init f fd) {C_Handing : Addr} (c_Handing : Cls K C_Handing) (na_Handing_own_lost : NoAttr K C_Handing "own_lost") (na_Handing_own_shares : NoAttr K C_Handing "own_shares") (na_Handing_own_wanted : NoAttr K C_Handing "own_wanted") (na_Handing_own_way : NoAttr K C_Handing "own_way") (n_len : mg "len" = none) (n_list : mg "list" = none) : FnOk P w K mg base CX0 1 f fd ["self", "picture", "shares", "way"] (spOf K (pf_m_Handing_init C_Handing)) := by
  refine ok_of (N := N_m_Handing_init) FF sc_m_Handing_init (fun as m R hG => ?_) (fun cdv A outer s H E hr => ?_)
  · obtain ⟨l_self, dx_self, v_picture, v_shares, v_way, w_self, w_own_wanted, _, rfl, _⟩ := hG
    rfl
  · have nd : (N_m_Handing_init : List Str).Nodup := sc_m_Handing_init.nd
    refine ⟨_, (pss_cons (ps_fld (pv 0) (pe_lc (own := [("row", 4)]) (g := gName 4) (tt := tYes) rfl nd (kPi (r := fun K => iList K _) (K := K) (pi_list (pv 1)) rfl) (blkOk_by (own := [("row", 4)]) (N := N_m_Handing_init) (sc := (defScope sm_Handing_init)) (by decide +kernel)) (fun _ _ _ _ _ => (pg_name (i := 4) nd rfl (by first | exact Or.inl rfl | exact Or.inr rfl))) (fun _ _ _ _ _ => pts_nil) (fun _ _ _ _ _ => (pe_callTy (kCa (r := rListOf) (K := K) call_list_of rfl) (by rfl) n_list (by decide +kernel) (pa_cons (pv 4) pa_nil)))) rfl)
      (pss_cons (ps_fld (pv 0) (pe_callTy (kCa (r := rListOf) (K := K) call_list_of rfl) (by rfl) n_list (by decide +kernel) (pa_cons (pv 2) pa_nil)) rfl)
      (pss_cons (ps_fld (pv 0) (pv 3) rfl)
      (pss_cons (ps_fld (pv 0) (pe_op op_rep (pe_lst (pa_cons pe_int pa_nil)) (pe_callB (kCa (r := rLenA) (K := K) call_len_seq rfl) (by rfl) n_len (by decide +kernel) (pa_cons (pe_ix (kIx (r := rIxL) (K := K) ix_list rfl) (pe_ix (kIx (r := rIxL) (K := K) ix_list rfl) (pv 1) pe_int (fun _ _ => rfl)) pe_int (fun _ _ => rfl)) pa_nil))) rfl)
      pss_nil)))), ?_⟩
    rintro as m R ⟨l_self, dx_self, v_picture, v_shares, v_way, w_self, w_own_wanted, h0, rfl, rfl, rfl⟩ F D rfl hk hfin hnx
    unfold m_Handing_init at h0
    show Wp _ _ _ [.rf l_self, .da ((dL (dL (dU dI))) v_picture), .da ((dL (d3 dI dI dI)) v_shares), .da (dS v_way), .un] [(l_self, obj C_Handing dx_self names_Handing [])]
    obtain ⟨u2, q3, h0⟩ := bindS h0
    obtain ⟨o4, q5, h0⟩ := bindS h0
    refine wp_fld0Nest (f := (dU dI)) 0 (lcNestG (f := (dU dI)) (src_L (f := (dL (dU dI))) (j := 4) (ev_var (i := 1) rfl)) (by decide) (fun _ => True.intro) q3 q5 (by rintro v_row1 y_ hx_ h_ c_; cases h_; exact (en_cb (ea_cons (ev_var (i := 4) rfl) ea_nil) (rcn_listL (f := (dU dI)))))) (fun _ => (ev_rf (i := 0) rfl)) rfl pa_Handing_own_wanted (Nat.lt_of_le_of_lt (Nat.le_of_ble_eq_true (m := 100) rfl) (by decide)) c_Handing na_Handing_own_wanted (fun l_6 ps_l_6 => ?_)
    show Wp _ _ _ [.rf l_self, .da ((dL (dL (dU dI))) v_picture), .da ((dL (d3 dI dI dI)) v_shares), .da (dS v_way), .un] (([(l_self, obj C_Handing dx_self names_Handing [.rf l_6])] : M) ++ nest (dU dI) l_6 ps_l_6 o4)
    refine wp_fld0 0 (ev_cb (ea_cons (ev_var (i := 2) rfl) ea_nil) (rc_listL (f := (d3 dI dI dI)))) (ev_rf (i := 0) rfl) rfl pa_Handing_own_shares (Nat.lt_of_le_of_lt (Nat.le_of_ble_eq_true (m := 100) rfl) (by decide)) c_Handing na_Handing_own_shares ?_
    show Wp _ _ _ [.rf l_self, .da ((dL (dL (dU dI))) v_picture), .da ((dL (d3 dI dI dI)) v_shares), .da (dS v_way), .un] (([(l_self, obj C_Handing dx_self names_Handing [.rf l_6, .da ((dL (d3 dI dI dI)) v_shares)])] : M) ++ nest (dU dI) l_6 ps_l_6 o4)
    refine wp_fld0 0 (ev_var (i := 3) rfl) (ev_rf (i := 0) rfl) rfl pa_Handing_own_way (Nat.lt_of_le_of_lt (Nat.le_of_ble_eq_true (m := 100) rfl) (by decide)) c_Handing na_Handing_own_way ?_
    show Wp _ _ _ [.rf l_self, .da ((dL (dL (dU dI))) v_picture), .da ((dL (d3 dI dI dI)) v_shares), .da (dS v_way), .un] (([(l_self, obj C_Handing dx_self names_Handing [.rf l_6, .da ((dL (d3 dI dI dI)) v_shares), .da (dS v_way)])] : M) ++ nest (dU dI) l_6 ps_l_6 o4)
    obtain ⟨t7, q8, h0⟩ := bindS h0
    obtain ⟨t9, q10, h0⟩ := bindS h0
    obtain ⟨t11, q12, h0⟩ := bindS h0
    refine wp_fld0 0 (ev_op (show Ev _ _ _ _ (.da ((dL dI) ([(0 : Int)] : (List Int)))) _ from ev_lst (dl := [dI (0 : Int)]) (ea_cons (ev_int (i := 0)) ea_nil) (Nat.le_of_ble_eq_true rfl)) (ev_cb (ea_cons (ev_op (ev_op (ev_var (i := 1) rfl) (ev_int (i := 0)) (rr_ixL (f := (dL (dU dI))) q8)) (ev_int (i := 0)) (rr_ixL (f := (dU dI)) q10)) ea_nil) (rc_lenU (f := dI))) (rr_rep (f := dI) q12)) (ev_rf (i := 0) rfl) rfl pa_Handing_own_lost (Nat.lt_of_le_of_lt (Nat.le_of_ble_eq_true (m := 100) rfl) (by decide)) c_Handing na_Handing_own_lost ?_
    show Wp _ _ _ [.rf l_self, .da ((dL (dL (dU dI))) v_picture), .da ((dL (d3 dI dI dI)) v_shares), .da (dS v_way), .un] (([(l_self, obj C_Handing dx_self names_Handing [.rf l_6, .da ((dL (d3 dI dI dI)) v_shares), .da (dS v_way), .da ((dL dI) t11)])] : M) ++ nest (dU dI) l_6 ps_l_6 o4)
    cases h0
    exact wp_fall hfin hnx ⟨rfl, _, _, rfl⟩ (List.Sublist.append (List.Sublist.cons₂ _ (List.nil_sublist _)) (List.Sublist.refl _))
end K83
set_option maxHeartbeats 2000000
namespace K83
open PySem PySem.Spec PyProof.Rows L2 Evl FC
theorem ok_m_Handing_side_of {P : Program} {w : World} {K : PySem.W.Frag} {mg : Str → Option Value} {base : Heap} {f : Addr} {fd : FuncData} (FF : Fun K "side_of" "Handing.side_of" sm_Handing_side_of f fd) {C_Handing : Addr} (c_Handing : Cls K C_Handing) (na_Handing_own_way : NoAttr K C_Handing "own_way") (q_TURNED : ∃ u, mg "TURNED" = some u ∧ RelV (.str (Str.ofString "turned")) u) : FnOk P w K mg base CX0 1 f fd ["self", "row"] (spOf K (pf_m_Handing_side_of C_Handing)) := by
  refine ok_of (N := N_m_Handing_side_of) FF sc_m_Handing_side_of (fun as m R hG => ?_) (fun cdv A outer s H E hr => ?_)
  · obtain ⟨l_self, dx_self, l_self_own_wanted, ps_l_self_own_wanted, v_self, v_self_own_wanted, v_row, r_, _, rfl, _⟩ := hG
    rfl
  · have nd : (N_m_Handing_side_of : List Str).Nodup := sc_m_Handing_side_of.nd
    refine ⟨_, (pss_cons (ps_if (PW.pt (pw_and (pt_cmpR op_eq (kPe (r := fun K => tFld K _ _) (K := K) (pe_fld (pv 0) rfl) rfl) (C8.pe_gc (by rfl) q_TURNED) (nomark _)) (pw_and1 (pt_cmpR op_eq (pe_op op_mod (pv 1) pe_int) pe_int (nomark _))))) (pss_cons (ps_ret (pe_un un_neg pe_int)) pss_nil) pss_nil)
      (pss_cons (ps_ret pe_int) pss_nil)), ?_⟩
    rintro as m R ⟨l_self, dx_self, l_self_own_wanted, ps_l_self_own_wanted, v_self, v_self_own_wanted, v_row, r_, h0, rfl, rfl, rfl⟩ F D rfl hk hfin hnx
    unfold m_Handing_side_of at h0
    show Wp _ _ _ [.rf l_self, .da (dI v_row)] (([(l_self, obj C_Handing dx_self names_Handing [.rf l_self_own_wanted, .da ((dL (d3 dI dI dI)) v_self.1), .da (dS v_self.2.1), .da ((dL dI) v_self.2.2)])] : M) ++ nest (dU dI) l_self_own_wanted ps_l_self_own_wanted v_self_own_wanted)
    obtain ⟨b3, q4, h0⟩ := bindS h0
    refine wp_if (et_and (k2 := b3) (m' := (([(l_self, obj C_Handing dx_self names_Handing [.rf l_self_own_wanted, .da ((dL (d3 dI dI dI)) v_self.1), .da (dS v_self.2.1), .da ((dL dI) v_self.2.2)])] : M) ++ nest (dU dI) l_self_own_wanted ps_l_self_own_wanted v_self_own_wanted)) (et_test (ev_op (ev_fld 0 2 (ev_rf (i := 0) rfl) rfl rfl pa_Handing_own_way (Nat.le_of_ble_eq_true rfl) c_Handing na_Handing_own_way) ev_tcS rr_eqS)) (fun e => by have h_ := condT e q4; obtain ⟨t1, q2, h_⟩ := bindS h_; cases h_; exact (et_test (ev_op (ev_op (ev_var (i := 1) rfl) (ev_int (i := 2)) (rr_mod q2)) (ev_int (i := 1)) rr_eqI))) (fun e => by have h_ := condF e q4; cases h_; exact ⟨rfl, rfl⟩)) (fun hc => ?_) (fun hc => ?_)
    · have h0 := condT hc h0
      have e0_ := Option.some.inj h0
      subst e0_
      exact wp_retS (tz := tNext) (ev_un (ev_int (i := 1)) ru_neg) hfin ⟨rfl, rfl⟩ (List.Sublist.append (List.Sublist.cons₂ _ (List.nil_sublist _)) (List.Sublist.refl _))
    · have h0 := condF hc h0
      refine wp_next ?_
      have e0_ := Option.some.inj h0
      subst e0_
      exact wp_retS (tz := tNext) (ev_int (i := 1)) hfin ⟨rfl, rfl⟩ (List.Sublist.append (List.Sublist.cons₂ _ (List.nil_sublist _)) (List.Sublist.refl _))
end K83
set_option maxHeartbeats 2000000
namespace K83
open PySem PySem.Spec PyProof.Rows L2 Evl FC
theorem ok_m_Handing_spots_in_turn {P : Program} {w : World} {K : PySem.W.Frag} {mg : Str → Option Value} {base : Heap} {f : Addr} {fd : FuncData} (FF : Fun K "spots_in_turn" "Handing.spots_in_turn" sm_Handing_spots_in_turn f fd) {C_Handing : Addr} (c_Handing : Cls K C_Handing) (na_Handing_own_wanted : NoAttr K C_Handing "own_wanted") {f_m_Handing_side_of : Addr} {fd_m_Handing_side_of : FuncData} (G_m_Handing_side_of : FnOk P w K mg base CX0 1 f_m_Handing_side_of fd_m_Handing_side_of ["self", "row"] (spOf K (pf_m_Handing_side_of C_Handing))) (mt_m_Handing_side_of : Meth K C_Handing "side_of" f_m_Handing_side_of) (b_m_Handing_side_of : Binds K fd_m_Handing_side_of ["self", "row"] []) (n_enumerate : mg "enumerate" = none) (n_len : mg "len" = none) (n_list : mg "list" = none) (n_range : mg "range" = none) : FnOk P w K mg base CX0 2 f fd ["self"] (spOf K (pf_m_Handing_spots_in_turn C_Handing)) := by
  refine ok_of (N := N_m_Handing_spots_in_turn) FF sc_m_Handing_spots_in_turn (fun as m R hG => ?_) (fun cdv A outer s H E hr => ?_)
  · obtain ⟨l_self, dx_self, l_self_own_wanted, ps_l_self_own_wanted, v_self, v_self_own_wanted, r_, _, rfl, _⟩ := hG
    rfl
  · have nd : (N_m_Handing_spots_in_turn : List Str).Nodup := sc_m_Handing_spots_in_turn.nd
    refine ⟨_, (pss_cons (ps_set (i := 1) nd rfl (Or.inl rfl) (pe_lst pa_nil))
      (pss_cons (ps_for PassesOwn.never rfl (kPi (r := fun K => iEnum K _) (K := K) (pi_enum (by rfl) n_enumerate (pa_cons (kPe (r := fun K => tFld K _ _) (K := K) (pe_fld (pv 0) rfl) rfl) pa_nil)) rfl) (pg_tup rfl (pgs_cons (pg_name (i := 2) nd rfl (by first | exact Or.inl rfl | exact Or.inr rfl)) (pgs_cons (pg_name (i := 3) nd rfl (by first | exact Or.inl rfl | exact Or.inr rfl)) pgs_nil)))
      (pss_cons (ps_expr (pe_bm PySem.F.plainAttrs_list PySem.F.slot_list_extend PySem.F.type_list_extend mt_extend (pv 1) (pa_cons (pe_lc (own := [("column", 4)]) (g := gName 4) (tt := tYes) rfl nd (kPi (r := fun K => iList K _) (K := K) (pi_list (kPe (r := fun K => tSlX K _ _ _ _) (K := K) (pe_sliceX (pe_listRg rfl (by rfl) n_list (prg_1 (by rfl) n_range (pe_callB (kCa (r := rLenA) (K := K) call_len_seq rfl) (by rfl) n_len (by decide +kernel) (pa_cons (pv 3) pa_nil)))) po_none po_none (po_some (pe_meth (pv 0) c_Handing mt_m_Handing_side_of G_m_Handing_side_of (hr.mono (by decide)) b_m_Handing_side_of .nil pass0 (pa_cons (pv 2) pa_nil)))) rfl)) rfl) (blkOk_by (own := [("column", 4)]) (N := N_m_Handing_spots_in_turn) (sc := (defScope sm_Handing_spots_in_turn)) (by decide +kernel)) (fun _ _ _ _ _ => (pg_name (i := 4) nd rfl (by first | exact Or.inl rfl | exact Or.inr rfl))) (fun _ _ _ _ _ => pts_nil) (fun _ _ _ _ _ => (pe_tup (pa_cons (pv 2) (pa_cons (pv 4) pa_nil))))) pa_nil)))
      pss_nil))
      (pss_cons (ps_ret (pv 1)) pss_nil))), ?_⟩
    rintro as m R ⟨l_self, dx_self, l_self_own_wanted, ps_l_self_own_wanted, v_self, v_self_own_wanted, r_, h0, rfl, rfl, rfl⟩ F D rfl hk hfin hnx
    unfold m_Handing_spots_in_turn at h0
    show Wp _ _ _ [.rf l_self, .un, .un, .un, .un] (([(l_self, obj C_Handing dx_self names_Handing [.rf l_self_own_wanted, .da ((dL (d3 dI dI dI)) v_self.1), .da (dS v_self.2.1), .da ((dL dI) v_self.2.2)])] : M) ++ nest (dU dI) l_self_own_wanted ps_l_self_own_wanted v_self_own_wanted)
    refine wp_asgN (i := 1) (show EvN _ _ _ _ (.ls (List.map (dP dI dI) ([] : (List (Int × Int))))) _ from en_lst (dl := []) ea_nil (Nat.le_of_ble_eq_true rfl)) (fun l_1 nk_l_1 => ?_) rfl
    show Wp _ _ _ [.rf l_self, .rf l_1, .un, .un, .un] ((([(l_self, obj C_Handing dx_self names_Handing [.rf l_self_own_wanted, .da ((dL (d3 dI dI dI)) v_self.1), .da (dS v_self.2.1), .da ((dL dI) v_self.2.2)])] : M) ++ nest (dU dI) l_self_own_wanted ps_l_self_own_wanted v_self_own_wanted) ++ [(l_1, .ls (List.map (dP dI dI) ([] : (List (Int × Int)))))])
    refine wp_perm (m1 := (([(l_self, obj C_Handing dx_self names_Handing [.rf l_self_own_wanted, .da ((dL (d3 dI dI dI)) v_self.1), .da (dS v_self.2.1), .da ((dL dI) v_self.2.2)]), (l_1, .ls (List.map (dP dI dI) ([] : (List (Int × Int)))))] : M) ++ nest (dU dI) l_self_own_wanted ps_l_self_own_wanted v_self_own_wanted)) (permB (by intro g_; simp only [List.map_append, List.sum_append, List.map_cons, List.sum_cons, List.map_nil, List.sum_nil]; omega)) ?_
    show Wp _ _ _ [.rf l_self, .rf l_1, .un, .un, .un] (([(l_self, obj C_Handing dx_self names_Handing [.rf l_self_own_wanted, .da ((dL (d3 dI dI dI)) v_self.1), .da (dS v_self.2.1), .da ((dL dI) v_self.2.2)]), (l_1, .ls (List.map (dP dI dI) ([] : (List (Int × Int)))))] : M) ++ nest (dU dI) l_self_own_wanted ps_l_self_own_wanted v_self_own_wanted)
    obtain ⟨c47, q48, h0⟩ := bindS h0
    refine wp_nl fun hl0_ => ?_
    refine wp_forF (fun (s_ : (List (Int × Int))) => [.rf l_self, .rf l_1, .un, .un, .un]) (fun (s_ : (List (Int × Int))) => (([(l_self, obj C_Handing dx_self names_Handing [.rf l_self_own_wanted, .da ((dL (d3 dI dI dI)) v_self.1), .da (dS v_self.2.1), .da ((dL dI) v_self.2.2)]), (l_1, .ls (List.map (dP dI dI) s_))] : M) ++ nest (dU dI) l_self_own_wanted ps_l_self_own_wanted v_self_own_wanted)) (src_EN (f := (dU dI)) (pre := ([(l_self, obj C_Handing dx_self names_Handing [.rf l_self_own_wanted, .da ((dL (d3 dI dI dI)) v_self.1), .da (dS v_self.2.1), .da ((dL dI) v_self.2.2)]), (l_1, .ls (List.map (dP dI dI) ([] : (List (Int × Int)))))] : M)) (j := 2) (k := 3) (ea_cons (ev_fld 0 0 (ev_rf (i := 0) rfl) rfl rfl pa_Handing_own_wanted (Nat.le_of_ble_eq_true rfl) c_Handing na_Handing_own_wanted) ea_nil)) (zip_forF hl0_ q48) (.cons .rfl (.cons .rfl (.cons .un (.cons .un (.cons .un Wks.nil))))) rfl (fun s_ => ⟨_, [], (List.append_nil _).symm⟩) ?_ ?_
    · rintro lo1 c20 ⟨v_row2, p_v_spots3, v_spots3⟩ s_ hx1 h1 D1 he1 hn1 hct1
      have hm_v_spots3 := mem_enumZ hx1
      show Wp _ _ _ [.rf l_self, .rf l_1, .da (dI v_row2), .rf p_v_spots3, .un] (([(l_self, obj C_Handing dx_self names_Handing [.rf l_self_own_wanted, .da ((dL (d3 dI dI dI)) v_self.1), .da (dS v_self.2.1), .da ((dL dI) v_self.2.2)]), (l_1, .ls (List.map (dP dI dI) c20))] : M) ++ nest (dU dI) l_self_own_wanted ps_l_self_own_wanted v_self_own_wanted)
      obtain ⟨rg34, q35, h1⟩ := bindS h1
      obtain ⟨u36, q37, h1⟩ := bindS h1
      obtain ⟨t38, q39, h1⟩ := bindS h1
      obtain ⟨t40, q41, h1⟩ := bindS h1
      obtain ⟨u43, q44, h1⟩ := bindS h1
      obtain ⟨u45, q46, h1⟩ := bindS h1
      refine wp_expr (ev_bm (ev_rf (i := 1) rfl) (j := 1) rfl (ea_cons (lc_end (lc_map (f2 := (dP dI dI)) (step := fun x => some ((fun (v_column42 : Int) => (v_row2, v_column42)) x)) (src_L (f := dI) (j := 4) (ev_stp (f := dI) (ev_listRg1 (ev_lenR (f := (dU dI)) (pre := ([(l_self, obj C_Handing dx_self names_Handing [.rf l_self_own_wanted, .da ((dL (d3 dI dI dI)) v_self.1), .da (dS v_self.2.1), .da ((dL dI) v_self.2.2)]), (l_1, .ls (List.map (dP dI dI) c20))] : M)) (j := 3) rfl hm_v_spots3) q35 q37) eo_none eo_none (eo_some (ev_methP (mc := (([(l_self, obj C_Handing dx_self names_Handing [.rf l_self_own_wanted, .da ((dL (d3 dI dI dI)) v_self.1), .da (dS v_self.2.1), .da ((dL dI) v_self.2.2)])] : M) ++ nest (dU dI) l_self_own_wanted ps_l_self_own_wanted v_self_own_wanted)) (mc' := (([(l_self, obj C_Handing dx_self names_Handing [.rf l_self_own_wanted, .da ((dL (d3 dI dI dI)) v_self.1), .da (dS v_self.2.1), .da ((dL dI) v_self.2.2)])] : M) ++ nest (dU dI) l_self_own_wanted ps_l_self_own_wanted v_self_own_wanted)) (fr := [(l_1, .ls (List.map (dP dI dI) c20))]) (m3 := (([(l_self, obj C_Handing dx_self names_Handing [.rf l_self_own_wanted, .da ((dL (d3 dI dI dI)) v_self.1), .da (dS v_self.2.1), .da ((dL dI) v_self.2.2)]), (l_1, .ls (List.map (dP dI dI) c20))] : M) ++ nest (dU dI) l_self_own_wanted ps_l_self_own_wanted v_self_own_wanted)) 0 (ev_rf (i := 0) rfl) rfl (Nat.le_of_ble_eq_true rfl) nm_Handing_side_of (ea_cons (ev_var (i := 2) rfl) ea_nil) (permB (by intro g_; simp only [List.map_append, List.sum_append, List.map_cons, List.sum_cons, List.map_nil, List.sum_nil]; omega)) (permB (by intro g_; simp only [List.map_append, List.sum_append, List.map_cons, List.sum_cons, List.map_nil, List.sum_nil]; omega)) ⟨_, ⟨_, _, _, _, _, _, _, _, q39, rfl, rfl, rfl⟩, fun _ _ h => h⟩)) q41)) (by decide) (fun _ => True.intro) q44 (mapO_pure _) (by rintro v_column42 y_ hx_ h_; cases h_; exact (show Ev _ _ _ _ (.da ((dP dI dI) (v_row2, v_column42))) _ from ev_tup (dl := [dI v_row2, dI v_column42]) (ea_cons (ev_var (i := 2) rfl) (ea_cons (ev_var (i := 4) rfl) ea_nil)) (Nat.le_of_ble_eq_true rfl))))) ea_nil) (rm_ext (f := (dP dI dI)) 1 rfl q46)) ?_
      show Wp _ _ _ [.rf l_self, .rf l_1, .da (dI v_row2), .rf p_v_spots3, .un] (([(l_self, obj C_Handing dx_self names_Handing [.rf l_self_own_wanted, .da ((dL (d3 dI dI dI)) v_self.1), .da (dS v_self.2.1), .da ((dL dI) v_self.2.2)]), (l_1, .ls (List.map (dP dI dI) (c20 ++ (List.map (fun (v_column42 : Int) => (v_row2, v_column42)) t40))))] : M) ++ nest (dU dI) l_self_own_wanted ps_l_self_own_wanted v_self_own_wanted)
      cases h1
      exact wp_next fun σ H a => hn1 σ H (at_weak (.cons .rfl (.cons .rfl (.cons .un (.cons .un (.cons .un Wks.nil))))) a)
    · show Wp _ _ _ [.rf l_self, .rf l_1, .un, .un, .un] (([(l_self, obj C_Handing dx_self names_Handing [.rf l_self_own_wanted, .da ((dL (d3 dI dI dI)) v_self.1), .da (dS v_self.2.1), .da ((dL dI) v_self.2.2)]), (l_1, .ls (List.map (dP dI dI) c47))] : M) ++ nest (dU dI) l_self_own_wanted ps_l_self_own_wanted v_self_own_wanted)
      refine wp_frz (i := 1) (j := 1) (l := l_1) rfl rfl nk_l_1 ?_
      show Wp _ _ _ [.rf l_self, .da ((dL (dP dI dI)) c47), .un, .un, .un] (([(l_self, obj C_Handing dx_self names_Handing [.rf l_self_own_wanted, .da ((dL (d3 dI dI dI)) v_self.1), .da (dS v_self.2.1), .da ((dL dI) v_self.2.2)])] : M) ++ nest (dU dI) l_self_own_wanted ps_l_self_own_wanted v_self_own_wanted)
      have e0_ := Option.some.inj h0
      subst e0_
      exact wp_retS (tz := tNext) (ev_var (i := 1) rfl) hfin ⟨rfl, rfl⟩ (List.Sublist.append (List.Sublist.cons₂ _ (List.nil_sublist _)) (List.Sublist.refl _))
end K83
set_option maxHeartbeats 2000000
namespace K83
open PySem PySem.Spec PyProof.Rows L2 Evl FC
theorem ok_m_Handing_takers {P : Program} {w : World} {K : PySem.W.Frag} {mg : Str → Option Value} {base : Heap} {f : Addr} {fd : FuncData} (FF : Fun K "takers" "Handing.takers" sm_Handing_takers f fd) {C_Handing : Addr} (c_Handing : Cls K C_Handing) (na_Handing_own_shares : NoAttr K C_Handing "own_shares") (na_Handing_own_wanted : NoAttr K C_Handing "own_wanted") {f_m_Handing_side_of : Addr} {fd_m_Handing_side_of : FuncData} (G_m_Handing_side_of : FnOk P w K mg base CX0 1 f_m_Handing_side_of fd_m_Handing_side_of ["self", "row"] (spOf K (pf_m_Handing_side_of C_Handing))) (mt_m_Handing_side_of : Meth K C_Handing "side_of" f_m_Handing_side_of) (b_m_Handing_side_of : Binds K fd_m_Handing_side_of ["self", "row"] []) (n_len : mg "len" = none) : FnOk P w K mg base CX0 2 f fd ["self", "row", "column"] (spOf K (pf_m_Handing_takers C_Handing)) := by
  refine ok_of (N := N_m_Handing_takers) FF sc_m_Handing_takers (fun as m R hG => ?_) (fun cdv A outer s H E hr => ?_)
  · obtain ⟨l_self, dx_self, l_self_own_wanted, ps_l_self_own_wanted, v_self, v_self_own_wanted, v_row, v_column, r_, _, rfl, _⟩ := hG
    rfl
  · have nd : (N_m_Handing_takers : List Str).Nodup := sc_m_Handing_takers.nd
    refine ⟨_, (pss_cons (ps_set (i := 3) nd rfl (Or.inl rfl) (pe_lst pa_nil))
      (pss_cons (ps_for PassesOwn.never rfl (kPi (r := fun K => iList K _) (K := K) (pi_list (kPe (r := fun K => tFld K _ _) (K := K) (pe_fld (pv 0) rfl) rfl)) rfl) (pg_tup rfl (pgs_cons (pg_name (i := 4) nd rfl (by first | exact Or.inl rfl | exact Or.inr rfl)) (pgs_cons (pg_name (i := 5) nd rfl (by first | exact Or.inl rfl | exact Or.inr rfl)) (pgs_cons (pg_name (i := 6) nd rfl (by first | exact Or.inl rfl | exact Or.inr rfl)) pgs_nil))))
      (pss_cons (ps_set (i := 7) nd rfl (Or.inl rfl) (pe_tup (pa_cons (pe_op op_add (pv 1) (pv 5)) (pa_cons (pe_op op_add (pv 2) (pe_op op_mulA (pv 4) (pe_meth (pv 0) c_Handing mt_m_Handing_side_of G_m_Handing_side_of (hr.mono (by decide)) b_m_Handing_side_of .nil pass0 (pa_cons (pv 1) pa_nil)))) pa_nil))))
      (Evl.pss_cut (ps_if (PW.pt (pw_and (pt_cmpR op_lt (pe_ix (kIx (r := rIxT) (K := K) ix_tup rfl) (pv 7) pe_int (fun _ _ => rfl)) (pe_callB (kCa (r := rLenA) (K := K) call_len_seq rfl) (by rfl) n_len (by decide +kernel) (pa_cons (kPe (r := fun K => tFld K _ _) (K := K) (pe_fld (pv 0) rfl) rfl) pa_nil)) (nomark _)) (pw_and1 (pt_chain op_le op_lt pe_int (pe_ix (kIx (r := rIxT) (K := K) ix_tup rfl) (pv 7) pe_int (fun _ _ => rfl)) (pe_callB (kCa (r := rLenA) (K := K) call_len_seq rfl) (by rfl) n_len (by decide +kernel) (pa_cons (pe_ix (kIx (r := rIxL) (K := K) ix_list rfl) (kPe (r := fun K => tFld K _ _) (K := K) (pe_fld (pv 0) rfl) rfl) pe_int (fun _ _ => rfl)) pa_nil)))))) (pss_cons (ps_expr (pe_bm PySem.F.plainAttrs_list PySem.F.slot_list_append PySem.F.type_list_append mt_append (pv 3) (pa_cons (pe_tup (pa_cons (pv 7) (pa_cons (pv 6) pa_nil))) pa_nil)))
      pss_nil) pss_nil)
      pss_nil)))
      (pss_cons (ps_ret (pv 3)) pss_nil))), ?_⟩
    rintro as m R ⟨l_self, dx_self, l_self_own_wanted, ps_l_self_own_wanted, v_self, v_self_own_wanted, v_row, v_column, r_, h0, rfl, rfl, rfl⟩ F D rfl hk hfin hnx
    unfold m_Handing_takers at h0
    show Wp _ _ _ [.rf l_self, .da (dI v_row), .da (dI v_column), .un, .un, .un, .un, .un] (([(l_self, obj C_Handing dx_self names_Handing [.rf l_self_own_wanted, .da ((dL (d3 dI dI dI)) v_self.1), .da (dS v_self.2.1), .da ((dL dI) v_self.2.2)])] : M) ++ nest (dU dI) l_self_own_wanted ps_l_self_own_wanted v_self_own_wanted)
    refine wp_asgN (i := 3) (show EvN _ _ _ _ (.ls (List.map (dP (dP dI dI) dI) ([] : (List ((Int × Int) × Int))))) _ from en_lst (dl := []) ea_nil (Nat.le_of_ble_eq_true rfl)) (fun l_1 nk_l_1 => ?_) rfl
    show Wp _ _ _ [.rf l_self, .da (dI v_row), .da (dI v_column), .rf l_1, .un, .un, .un, .un] ((([(l_self, obj C_Handing dx_self names_Handing [.rf l_self_own_wanted, .da ((dL (d3 dI dI dI)) v_self.1), .da (dS v_self.2.1), .da ((dL dI) v_self.2.2)])] : M) ++ nest (dU dI) l_self_own_wanted ps_l_self_own_wanted v_self_own_wanted) ++ [(l_1, .ls (List.map (dP (dP dI dI) dI) ([] : (List ((Int × Int) × Int)))))])
    refine wp_perm (m1 := (([(l_self, obj C_Handing dx_self names_Handing [.rf l_self_own_wanted, .da ((dL (d3 dI dI dI)) v_self.1), .da (dS v_self.2.1), .da ((dL dI) v_self.2.2)]), (l_1, .ls (List.map (dP (dP dI dI) dI) ([] : (List ((Int × Int) × Int)))))] : M) ++ nest (dU dI) l_self_own_wanted ps_l_self_own_wanted v_self_own_wanted)) (permB (by intro g_; simp only [List.map_append, List.sum_append, List.map_cons, List.sum_cons, List.map_nil, List.sum_nil]; omega)) ?_
    show Wp _ _ _ [.rf l_self, .da (dI v_row), .da (dI v_column), .rf l_1, .un, .un, .un, .un] (([(l_self, obj C_Handing dx_self names_Handing [.rf l_self_own_wanted, .da ((dL (d3 dI dI dI)) v_self.1), .da (dS v_self.2.1), .da ((dL dI) v_self.2.2)]), (l_1, .ls (List.map (dP (dP dI dI) dI) ([] : (List ((Int × Int) × Int)))))] : M) ++ nest (dU dI) l_self_own_wanted ps_l_self_own_wanted v_self_own_wanted)
    obtain ⟨c63, q64, h0⟩ := bindS h0
    refine wp_forF (fun (s_ : (List ((Int × Int) × Int))) => [.rf l_self, .da (dI v_row), .da (dI v_column), .rf l_1, .un, .un, .un, .un]) (fun (s_ : (List ((Int × Int) × Int))) => (([(l_self, obj C_Handing dx_self names_Handing [.rf l_self_own_wanted, .da ((dL (d3 dI dI dI)) v_self.1), .da (dS v_self.2.1), .da ((dL dI) v_self.2.2)]), (l_1, .ls (List.map (dP (dP dI dI) dI) s_))] : M) ++ nest (dU dI) l_self_own_wanted ps_l_self_own_wanted v_self_own_wanted)) (src_L3 (f := dI) (f2 := dI) (f3 := dI) (i := 4) (j := 5) (k := 6) (ev_fld 0 1 (ev_rf (i := 0) rfl) rfl rfl pa_Handing_own_shares (Nat.le_of_ble_eq_true rfl) c_Handing na_Handing_own_shares)) q64 (.cons .rfl (.cons .rfl (.cons .rfl (.cons .rfl (.cons .un (.cons .un (.cons .un (.cons .un Wks.nil)))))))) rfl (fun _ => True.intro) ?_ ?_
    · rintro lo1 c26 ⟨v_across2, v_down3, v_parts_there4⟩ s_ hx1 h1 D1 he1 hn1 hct1
      show Wp _ _ _ [.rf l_self, .da (dI v_row), .da (dI v_column), .rf l_1, .da (dI v_across2), .da (dI v_down3), .da (dI v_parts_there4), .un] (([(l_self, obj C_Handing dx_self names_Handing [.rf l_self_own_wanted, .da ((dL (d3 dI dI dI)) v_self.1), .da (dS v_self.2.1), .da ((dL dI) v_self.2.2)]), (l_1, .ls (List.map (dP (dP dI dI) dI) c26))] : M) ++ nest (dU dI) l_self_own_wanted ps_l_self_own_wanted v_self_own_wanted)
      obtain ⟨t45, q46, h1⟩ := bindS h1
      obtain ⟨t47, q48, h1⟩ := bindS h1
      obtain ⟨v_further49, q50, h1⟩ := bindS h1
      refine wp_asg (i := 7) (ev_eq (f := (dP dI dI)) (show Ev _ _ _ _ (.da ((dP dI dI) ((v_row + v_down3), (v_column + t47)))) _ from ev_tup (dl := [dI (v_row + v_down3), dI (v_column + t47)]) (ea_cons (ev_op (ev_var (i := 1) rfl) (ev_var (i := 5) rfl) rr_i) (ea_cons (ev_op (ev_var (i := 2) rfl) (ev_op (ev_var (i := 4) rfl) (ev_methP (mc := (([(l_self, obj C_Handing dx_self names_Handing [.rf l_self_own_wanted, .da ((dL (d3 dI dI dI)) v_self.1), .da (dS v_self.2.1), .da ((dL dI) v_self.2.2)])] : M) ++ nest (dU dI) l_self_own_wanted ps_l_self_own_wanted v_self_own_wanted)) (mc' := (([(l_self, obj C_Handing dx_self names_Handing [.rf l_self_own_wanted, .da ((dL (d3 dI dI dI)) v_self.1), .da (dS v_self.2.1), .da ((dL dI) v_self.2.2)])] : M) ++ nest (dU dI) l_self_own_wanted ps_l_self_own_wanted v_self_own_wanted)) (fr := [(l_1, .ls (List.map (dP (dP dI dI) dI) c26))]) (m3 := (([(l_self, obj C_Handing dx_self names_Handing [.rf l_self_own_wanted, .da ((dL (d3 dI dI dI)) v_self.1), .da (dS v_self.2.1), .da ((dL dI) v_self.2.2)]), (l_1, .ls (List.map (dP (dP dI dI) dI) c26))] : M) ++ nest (dU dI) l_self_own_wanted ps_l_self_own_wanted v_self_own_wanted)) 0 (ev_rf (i := 0) rfl) rfl (Nat.le_of_ble_eq_true rfl) nm_Handing_side_of (ea_cons (ev_var (i := 1) rfl) ea_nil) (permB (by intro g_; simp only [List.map_append, List.sum_append, List.map_cons, List.sum_cons, List.map_nil, List.sum_nil]; omega)) (permB (by intro g_; simp only [List.map_append, List.sum_append, List.map_cons, List.sum_cons, List.map_nil, List.sum_nil]; omega)) ⟨_, ⟨_, _, _, _, _, _, _, _, q46, rfl, rfl, rfl⟩, fun _ _ h => h⟩) (rr_mul q48)) rr_i) ea_nil)) (Nat.le_of_ble_eq_true rfl)) (Option.some.inj q50)) ?_
      show Wp _ _ _ [.rf l_self, .da (dI v_row), .da (dI v_column), .rf l_1, .da (dI v_across2), .da (dI v_down3), .da (dI v_parts_there4), .da ((dP dI dI) v_further49)] (([(l_self, obj C_Handing dx_self names_Handing [.rf l_self_own_wanted, .da ((dL (d3 dI dI dI)) v_self.1), .da (dS v_self.2.1), .da ((dL dI) v_self.2.2)]), (l_1, .ls (List.map (dP (dP dI dI) dI) c26))] : M) ++ nest (dU dI) l_self_own_wanted ps_l_self_own_wanted v_self_own_wanted)
      obtain ⟨b55, q56, h1⟩ := bindS h1
      obtain ⟨c59, q62, h1⟩ := bindS h1
      refine wp_cutIf (ds' := [.rf l_self, .da (dI v_row), .da (dI v_column), .rf l_1, .da (dI v_across2), .da (dI v_down3), .da (dI v_parts_there4), .da ((dP dI dI) v_further49)]) (m' := (([(l_self, obj C_Handing dx_self names_Handing [.rf l_self_own_wanted, .da ((dL (d3 dI dI dI)) v_self.1), .da (dS v_self.2.1), .da ((dL dI) v_self.2.2)]), (l_1, .ls (List.map (dP (dP dI dI) dI) c59))] : M) ++ nest (dU dI) l_self_own_wanted ps_l_self_own_wanted v_self_own_wanted)) ?_ (et_and (k2 := b55) (m' := (([(l_self, obj C_Handing dx_self names_Handing [.rf l_self_own_wanted, .da ((dL (d3 dI dI dI)) v_self.1), .da (dS v_self.2.1), .da ((dL dI) v_self.2.2)]), (l_1, .ls (List.map (dP (dP dI dI) dI) c26))] : M) ++ nest (dU dI) l_self_own_wanted ps_l_self_own_wanted v_self_own_wanted)) (et_test (ev_op (ev_op (ev_var (i := 7) rfl) (ev_int (i := 0)) (rr_ixT (dl := [dI (v_further49).1, dI (v_further49).2]) rfl)) (ev_cb (ea_cons (ev_fld 0 0 (ev_rf (i := 0) rfl) rfl rfl pa_Handing_own_wanted (Nat.le_of_ble_eq_true rfl) c_Handing na_Handing_own_wanted) ea_nil) (rc_lenN (f := (dU dI)) (pre := ([(l_self, obj C_Handing dx_self names_Handing [.rf l_self_own_wanted, .da ((dL (d3 dI dI dI)) v_self.1), .da (dS v_self.2.1), .da ((dL dI) v_self.2.2)]), (l_1, .ls (List.map (dP (dP dI dI) dI) c26))] : M)))) (rr_b (f := fun i j => decide (i < j))))) (fun e => by have h_ := condT e q56; obtain ⟨b53, q54, h_⟩ := bindS h_; have e_ := Option.some.inj h_; subst e_; exact (et_test (ev_chainX (k2 := b53) (ev_int (i := 0)) (ev_op (ev_var (i := 7) rfl) (ev_int (i := 1)) (rr_ixT (dl := [dI (v_further49).1, dI (v_further49).2]) rfl)) (rr_b (f := fun i j => decide (i ≤ j))) (fun e => by have h_ := condT e q54; obtain ⟨t51, q52, h_⟩ := bindS h_; cases h_; exact ⟨_, _, (ev_lenRow (f := (dU dI)) (xs := t51) (pre := ([(l_self, obj C_Handing dx_self names_Handing [.rf l_self_own_wanted, .da ((dL (d3 dI dI dI)) v_self.1), .da (dS v_self.2.1), .da ((dL dI) v_self.2.2)]), (l_1, .ls (List.map (dP (dP dI dI) dI) c26))] : M)) (ev_fld 0 0 (ev_rf (i := 0) rfl) rfl rfl pa_Handing_own_wanted (Nat.le_of_ble_eq_true rfl) c_Handing na_Handing_own_wanted) (ev_int (i := 0)) q52), (rr_b (f := fun i j => decide (i < j)))⟩) (fun e => by have h_ := condF e q54; cases h_; exact ⟨rfl, rfl⟩)))) (fun e => by have h_ := condF e q56; cases h_; exact ⟨rfl, rfl⟩)) (fun hc => ?_) (fun hc => ?_)
      · cases h1
        exact wp_next fun σ H a => hn1 σ H (at_weak (.cons .rfl (.cons .rfl (.cons .rfl (.cons .rfl (.cons .un (.cons .un (.cons .un (.cons .un Wks.nil)))))))) a)
      · have h103 := condT hc q62
        obtain ⟨u60, q61, h103⟩ := bindS h103
        refine wp_expr (ev_bm (ev_rf (i := 3) rfl) (j := 1) rfl (ea_cons (show Ev _ _ _ _ (.da ((dP (dP dI dI) dI) (v_further49, v_parts_there4))) _ from ev_tup (dl := [(dP dI dI) v_further49, dI v_parts_there4]) (ea_cons (ev_var (i := 7) rfl) (ea_cons (ev_var (i := 6) rfl) ea_nil)) (Nat.le_of_ble_eq_true rfl)) ea_nil) (rm_app (f := (dP (dP dI dI) dI)) 1 rfl q61)) ?_
        show Wp _ _ _ [.rf l_self, .da (dI v_row), .da (dI v_column), .rf l_1, .da (dI v_across2), .da (dI v_down3), .da (dI v_parts_there4), .da ((dP dI dI) v_further49)] (([(l_self, obj C_Handing dx_self names_Handing [.rf l_self_own_wanted, .da ((dL (d3 dI dI dI)) v_self.1), .da (dS v_self.2.1), .da ((dL dI) v_self.2.2)]), (l_1, .ls (List.map (dP (dP dI dI) dI) (c26 ++ [(v_further49, v_parts_there4)])))] : M) ++ nest (dU dI) l_self_own_wanted ps_l_self_own_wanted v_self_own_wanted)
        cases h103
        exact wp_nextW (.cons .rfl (.cons .rfl (.cons .rfl (.cons .rfl (.cons .rfl (.cons .rfl (.cons .rfl (.cons .rfl Wks.nil)))))))) rfl
      · have h103 := condF hc q62
        cases h103
        exact wp_nextW (.cons .rfl (.cons .rfl (.cons .rfl (.cons .rfl (.cons .rfl (.cons .rfl (.cons .rfl (.cons .rfl Wks.nil)))))))) rfl
    · show Wp _ _ _ [.rf l_self, .da (dI v_row), .da (dI v_column), .rf l_1, .un, .un, .un, .un] (([(l_self, obj C_Handing dx_self names_Handing [.rf l_self_own_wanted, .da ((dL (d3 dI dI dI)) v_self.1), .da (dS v_self.2.1), .da ((dL dI) v_self.2.2)]), (l_1, .ls (List.map (dP (dP dI dI) dI) c63))] : M) ++ nest (dU dI) l_self_own_wanted ps_l_self_own_wanted v_self_own_wanted)
      refine wp_frz (i := 3) (j := 1) (l := l_1) rfl rfl nk_l_1 ?_
      show Wp _ _ _ [.rf l_self, .da (dI v_row), .da (dI v_column), .da ((dL (dP (dP dI dI) dI)) c63), .un, .un, .un, .un] (([(l_self, obj C_Handing dx_self names_Handing [.rf l_self_own_wanted, .da ((dL (d3 dI dI dI)) v_self.1), .da (dS v_self.2.1), .da ((dL dI) v_self.2.2)])] : M) ++ nest (dU dI) l_self_own_wanted ps_l_self_own_wanted v_self_own_wanted)
      have e0_ := Option.some.inj h0
      subst e0_
      exact wp_retS (tz := tNext) (ev_var (i := 3) rfl) hfin ⟨rfl, rfl⟩ (List.Sublist.append (List.Sublist.cons₂ _ (List.nil_sublist _)) (List.Sublist.refl _))
end K83
set_option maxHeartbeats 2000000
namespace K83
open PySem PySem.Spec PyProof.Rows L2 Evl FC
theorem ok_m_Handing_wanted_at {P : Program} {w : World} {K : PySem.W.Frag} {mg : Str → Option Value} {base : Heap} {f : Addr} {fd : FuncData} (FF : Fun K "wanted_at" "Handing.wanted_at" sm_Handing_wanted_at f fd) {C_Handing : Addr} (c_Handing : Cls K C_Handing) (na_Handing_own_wanted : NoAttr K C_Handing "own_wanted") : FnOk P w K mg base CX0 1 f fd ["self", "row", "column"] (spOf K (pf_m_Handing_wanted_at C_Handing)) := by
  refine ok_of (N := N_m_Handing_wanted_at) FF sc_m_Handing_wanted_at (fun as m R hG => ?_) (fun cdv A outer s H E hr => ?_)
  · obtain ⟨l_self, dx_self, l_self_own_wanted, ps_l_self_own_wanted, v_self, v_self_own_wanted, v_row, v_column, r_, _, rfl, _⟩ := hG
    rfl
  · have nd : (N_m_Handing_wanted_at : List Str).Nodup := sc_m_Handing_wanted_at.nd
    refine ⟨_, (pss_cons (ps_ret (pe_ix (kIx (r := rIxL) (K := K) ix_list rfl) (pe_ix (kIx (r := rIxL) (K := K) ix_list rfl) (kPe (r := fun K => tFld K _ _) (K := K) (pe_fld (pv 0) rfl) rfl) (pv 1) (fun _ _ => rfl)) (pv 2) (fun _ _ => rfl))) pss_nil), ?_⟩
    rintro as m R ⟨l_self, dx_self, l_self_own_wanted, ps_l_self_own_wanted, v_self, v_self_own_wanted, v_row, v_column, r_, h0, rfl, rfl, rfl⟩ F D rfl hk hfin hnx
    unfold m_Handing_wanted_at at h0
    show Wp _ _ _ [.rf l_self, .da (dI v_row), .da (dI v_column)] (([(l_self, obj C_Handing dx_self names_Handing [.rf l_self_own_wanted, .da ((dL (d3 dI dI dI)) v_self.1), .da (dS v_self.2.1), .da ((dL dI) v_self.2.2)])] : M) ++ nest (dU dI) l_self_own_wanted ps_l_self_own_wanted v_self_own_wanted)
    obtain ⟨t1, q2, h0⟩ := bindS h0
    have e0_ := Option.some.inj h0
    subst e0_
    exact wp_retS (tz := tNext) (ev_nget (f := (dU dI)) (pre := ([(l_self, obj C_Handing dx_self names_Handing [.rf l_self_own_wanted, .da ((dL (d3 dI dI dI)) v_self.1), .da (dS v_self.2.1), .da ((dL dI) v_self.2.2)])] : M)) (ev_fld 0 0 (ev_rf (i := 0) rfl) rfl rfl pa_Handing_own_wanted (Nat.le_of_ble_eq_true rfl) c_Handing na_Handing_own_wanted) (ev_var (i := 1) rfl) (ev_var (i := 2) rfl) q2) hfin ⟨rfl, rfl⟩ (List.Sublist.append (List.Sublist.cons₂ _ (List.nil_sublist _)) (List.Sublist.refl _))
end K83
set_option maxHeartbeats 2000000
namespace K83
open PySem PySem.Spec PyProof.Rows L2 Evl FC
theorem ok_m_Handing_more_at {P : Program} {w : World} {K : PySem.W.Frag} {mg : Str → Option Value} {base : Heap} {f : Addr} {fd : FuncData} (FF : Fun K "more_at" "Handing.more_at" sm_Handing_more_at f fd) {C_Handing : Addr} (c_Handing : Cls K C_Handing) (na_Handing_own_wanted : NoAttr K C_Handing "own_wanted") (n_tuple : mg "tuple" = none) (n_zip : mg "zip" = none) : FnOk P w K mg base CX0 1 f fd ["self", "spot", "more"] (spOf K (pf_m_Handing_more_at C_Handing)) := by
  refine ok_of (N := N_m_Handing_more_at) FF sc_m_Handing_more_at (fun as m R hG => ?_) (fun cdv A outer s H E hr => ?_)
  · obtain ⟨l_self, dx_self, l_self_own_wanted, ps_l_self_own_wanted, v_self, v_self_own_wanted, v_spot, v_more, r_, w_self_own_wanted, _, rfl, _⟩ := hG
    rfl
  · have nd : (N_m_Handing_more_at : List Str).Nodup := sc_m_Handing_more_at.nd
    refine ⟨_, (pss_cons (ps_asg (pv 1) (pg_tup rfl (pgs_cons (pg_name (i := 3) nd rfl (Or.inl rfl)) (pgs_cons (pg_name (i := 4) nd rfl (Or.inl rfl)) pgs_nil))))
      (pss_cons (ps_set (i := 5) nd rfl (Or.inl rfl) (pe_ix (kIx (r := rIxL) (K := K) ix_list rfl) (pe_ix (kIx (r := rIxL) (K := K) ix_list rfl) (kPe (r := fun K => tFld K _ _) (K := K) (pe_fld (pv 0) rfl) rfl) (pv 3) (fun _ _ => rfl)) (pv 4) (fun _ _ => rfl)))
      (pss_cons (ps_asg (pe_callTy (kCa (r := rTupOf) (K := K) call_tuple_of rfl) (by rfl) n_tuple (by decide +kernel) (pa_cons (pe_lc (own := [("number", 6), ("extra", 7)]) (g := gTup K 2 (gCons (gName 6) (gCons (gName 7) gNil))) (tt := tYes) rfl nd (kPi (r := fun K => iZipX K _) (K := K) (pi_zipX (by rfl) n_zip (pa_cons (pv 5) (pa_cons (pv 2) pa_nil))) rfl) (blkOk_by (own := [("number", 6), ("extra", 7)]) (N := N_m_Handing_more_at) (sc := (defScope sm_Handing_more_at)) (by decide +kernel)) (fun _ _ _ _ _ => (pg_tup rfl (pgs_cons (pg_name (i := 6) nd rfl (by first | exact Or.inl rfl | exact Or.inr rfl)) (pgs_cons (pg_name (i := 7) nd rfl (by first | exact Or.inl rfl | exact Or.inr rfl)) pgs_nil)))) (fun _ _ _ _ _ => pts_nil) (fun _ _ _ _ _ => (pe_op op_add (pv 6) (pv 7)))) pa_nil)) (pg_sub (pe_ix (kIx (r := rIxL) (K := K) ix_list rfl) (kPe (r := fun K => tFld K _ _) (K := K) (pe_fld (pv 0) rfl) rfl) (pv 3) (fun _ _ => rfl)) (pv 4) set_list))
      pss_nil))), ?_⟩
    rintro as m R ⟨l_self, dx_self, l_self_own_wanted, ps_l_self_own_wanted, v_self, v_self_own_wanted, v_spot, v_more, r_, w_self_own_wanted, h0, rfl, rfl, rfl⟩ F D rfl hk hfin hnx
    unfold m_Handing_more_at at h0
    show Wp _ _ _ [.rf l_self, .da ((dP dI dI) v_spot), .da ((dL dI) v_more), .un, .un, .un, .un, .un] (([(l_self, obj C_Handing dx_self names_Handing [.rf l_self_own_wanted, .da ((dL (d3 dI dI dI)) v_self.1), .da (dS v_self.2.1), .da ((dL dI) v_self.2.2)])] : M) ++ nest (dU dI) l_self_own_wanted ps_l_self_own_wanted v_self_own_wanted)
    refine wp_unp2 (f := dI) (g := dI) (i := 3) (j := 4) (ev_var (i := 1) rfl) ?_
    show Wp _ _ _ [.rf l_self, .da ((dP dI dI) v_spot), .da ((dL dI) v_more), .da (dI (v_spot).1), .da (dI (v_spot).2), .un, .un, .un] (([(l_self, obj C_Handing dx_self names_Handing [.rf l_self_own_wanted, .da ((dL (d3 dI dI dI)) v_self.1), .da (dS v_self.2.1), .da ((dL dI) v_self.2.2)])] : M) ++ nest (dU dI) l_self_own_wanted ps_l_self_own_wanted v_self_own_wanted)
    obtain ⟨t1, q2, h0⟩ := bindS h0
    refine wp_asg (i := 5) (ev_nget (f := (dU dI)) (pre := ([(l_self, obj C_Handing dx_self names_Handing [.rf l_self_own_wanted, .da ((dL (d3 dI dI dI)) v_self.1), .da (dS v_self.2.1), .da ((dL dI) v_self.2.2)])] : M)) (ev_fld 0 0 (ev_rf (i := 0) rfl) rfl rfl pa_Handing_own_wanted (Nat.le_of_ble_eq_true rfl) c_Handing na_Handing_own_wanted) (ev_var (i := 3) rfl) (ev_var (i := 4) rfl) q2) ?_
    show Wp _ _ _ [.rf l_self, .da ((dP dI dI) v_spot), .da ((dL dI) v_more), .da (dI (v_spot).1), .da (dI (v_spot).2), .da ((dU dI) t1), .un, .un] (([(l_self, obj C_Handing dx_self names_Handing [.rf l_self_own_wanted, .da ((dL (d3 dI dI dI)) v_self.1), .da (dS v_self.2.1), .da ((dL dI) v_self.2.2)])] : M) ++ nest (dU dI) l_self_own_wanted ps_l_self_own_wanted v_self_own_wanted)
    obtain ⟨u4, q5, h0⟩ := bindS h0
    obtain ⟨c6, q7, h0⟩ := bindS h0
    refine wp_nset (f := (dU dI)) (pre := ([(l_self, obj C_Handing dx_self names_Handing [.rf l_self_own_wanted, .da ((dL (d3 dI dI dI)) v_self.1), .da (dS v_self.2.1), .da ((dL dI) v_self.2.2)])] : M)) (ev_cb (ea_cons (lc_end (lc_map (f2 := dI) (step := fun x => some ((fun (p_ : (Int × Int)) => (fun (v_number3 : Int) (v_extra3 : Int) => (v_number3 + v_extra3)) p_.1 p_.2) x)) (src_ZX (f := dI) (f2 := dI) (j := 6) (k := 7) (ea_cons (ev_var (i := 5) rfl) (ea_cons (ev_var (i := 2) rfl) ea_nil))) (by decide) (fun _ => True.intro) q5 (mapO_pure _) (by rintro ⟨v_number3, v_extra3⟩ y_ hx_ h_; cases h_; exact (ev_op (ev_var (i := 6) rfl) (ev_var (i := 7) rfl) rr_i)))) ea_nil) (rc_tupL (f := dI))) (ev_fld 0 0 (ev_rf (i := 0) rfl) rfl rfl pa_Handing_own_wanted (Nat.le_of_ble_eq_true rfl) c_Handing na_Handing_own_wanted) (ev_var (i := 3) rfl) (ev_var (i := 4) rfl) q7 ?_
    show Wp _ _ _ [.rf l_self, .da ((dP dI dI) v_spot), .da ((dL dI) v_more), .da (dI (v_spot).1), .da (dI (v_spot).2), .da ((dU dI) t1), .un, .un] (([(l_self, obj C_Handing dx_self names_Handing [.rf l_self_own_wanted, .da ((dL (d3 dI dI dI)) v_self.1), .da (dS v_self.2.1), .da ((dL dI) v_self.2.2)])] : M) ++ nest (dU dI) l_self_own_wanted ps_l_self_own_wanted c6)
    cases h0
    exact wp_fall hfin hnx ⟨rfl, rfl⟩ (List.Sublist.append (List.Sublist.cons₂ _ (List.nil_sublist _)) (List.Sublist.refl _))
end K83
set_option maxHeartbeats 2000000
namespace K83
open PySem PySem.Spec PyProof.Rows L2 Evl FC
theorem ok_m_Handing_tell {P : Program} {w : World} {K : PySem.W.Frag} {mg : Str → Option Value} {base : Heap} {f : Addr} {fd : FuncData} (FF : Fun K "tell" "Handing.tell" sm_Handing_tell f fd) {C_Handing : Addr} (c_Handing : Cls K C_Handing) (na_Handing_own_lost : NoAttr K C_Handing "own_lost") (na_Handing_own_shares : NoAttr K C_Handing "own_shares") (na_Handing_own_wanted : NoAttr K C_Handing "own_wanted") {f_m_Handing_more_at : Addr} {fd_m_Handing_more_at : FuncData} (G_m_Handing_more_at : FnOk P w K mg base CX0 1 f_m_Handing_more_at fd_m_Handing_more_at ["self", "spot", "more"] (spOf K (pf_m_Handing_more_at C_Handing))) (mt_m_Handing_more_at : Meth K C_Handing "more_at" f_m_Handing_more_at) (b_m_Handing_more_at : Binds K fd_m_Handing_more_at ["self", "spot", "more"] []) {f_m_Handing_takers : Addr} {fd_m_Handing_takers : FuncData} (G_m_Handing_takers : FnOk P w K mg base CX0 2 f_m_Handing_takers fd_m_Handing_takers ["self", "row", "column"] (spOf K (pf_m_Handing_takers C_Handing))) (mt_m_Handing_takers : Meth K C_Handing "takers" f_m_Handing_takers) (b_m_Handing_takers : Binds K fd_m_Handing_takers ["self", "row", "column"] []) (n_enumerate : mg "enumerate" = none) (n_len : mg "len" = none) (n_sum : mg "sum" = none) (n_zip : mg "zip" = none) : FnOk P w K mg base CX0 3 f fd ["self", "row", "column", "colour"] (spOf K (pf_m_Handing_tell C_Handing)) := by
  refine ok_of (N := N_m_Handing_tell) FF sc_m_Handing_tell (fun as m R hG => ?_) (fun cdv A outer s H E hr => ?_)
  · obtain ⟨l_self, dx_self, l_self_own_wanted, ps_l_self_own_wanted, v_self, v_self_own_wanted, v_row, v_column, v_colour, r_, w_self, w_self_own_wanted, _, rfl, _⟩ := hG
    rfl
  · have nd : (N_m_Handing_tell : List Str).Nodup := sc_m_Handing_tell.nd
    refine ⟨_, (pss_cons (ps_set (i := 5) nd rfl (Or.inr rfl) (pe_lc (own := [("number", 4), ("told", 12)]) (g := gTup K 2 (gCons (gName 4) (gCons (gName 12) gNil))) (tt := tYes) rfl nd (kPi (r := fun K => RZ.iZipA K _) (K := K) (RZ.pi_zipA (by rfl) n_zip (pa_cons (pe_ix (kIx (r := rIxL) (K := K) ix_list rfl) (pe_ix (kIx (r := rIxL) (K := K) ix_list rfl) (kPe (r := fun K => tFld K _ _) (K := K) (pe_fld (pv 0) rfl) rfl) (pv 1) (fun _ _ => rfl)) (pv 2) (fun _ _ => rfl)) (pa_cons (pv 3) pa_nil))) rfl) (blkOk_by (own := [("number", 4), ("told", 12)]) (N := N_m_Handing_tell) (sc := (defScope sm_Handing_tell)) (by decide +kernel)) (fun _ _ _ _ _ => (pg_tup rfl (pgs_cons (pg_name (i := 4) nd rfl (by first | exact Or.inl rfl | exact Or.inr rfl)) (pgs_cons (pg_name (i := 12) nd rfl (by first | exact Or.inl rfl | exact Or.inr rfl)) pgs_nil)))) (fun _ _ _ _ _ => pts_nil) (fun _ _ _ _ _ => (pe_op op_sub (pv 4) (pv 12)))))
      (pss_cons (ps_set (i := 6) nd rfl (Or.inl rfl) (pe_meth (pv 0) c_Handing mt_m_Handing_takers G_m_Handing_takers (hr.mono (by decide)) b_m_Handing_takers .nil pass0 (pa_cons (pv 1) (pa_cons (pv 2) pa_nil))))
      (pss_cons (ps_if (pt_cmpR op_eq (pe_callB (kCa (r := rLenA) (K := K) call_len_seq rfl) (by rfl) n_len (by decide +kernel) (pa_cons (pv 6) pa_nil)) pe_int (nomark _)) (pss_cons (ps_fld (pv 0) (pe_lc (own := [("lost", 15), ("number", 4)]) (g := gTup K 2 (gCons (gName 15) (gCons (gName 4) gNil))) (tt := tYes) rfl nd (kPi (r := fun K => RZ.iZipA K _) (K := K) (RZ.pi_zipA (by rfl) n_zip (pa_cons (kPe (r := fun K => tFld K _ _) (K := K) (pe_fld (pv 0) rfl) rfl) (pa_cons (pv 5) pa_nil))) rfl) (blkOk_by (own := [("lost", 15), ("number", 4)]) (N := N_m_Handing_tell) (sc := (defScope sm_Handing_tell)) (by decide +kernel)) (fun _ _ _ _ _ => (pg_tup rfl (pgs_cons (pg_name (i := 15) nd rfl (by first | exact Or.inl rfl | exact Or.inr rfl)) (pgs_cons (pg_name (i := 4) nd rfl (by first | exact Or.inl rfl | exact Or.inr rfl)) pgs_nil)))) (fun _ _ _ _ _ => pts_nil) (fun _ _ _ _ _ => (pe_op op_add (pv 15) (pv 4)))) rfl)
      (pss_cons ps_retN pss_nil)) pss_nil)
      (pss_cons (ps_set (i := 7) nd rfl (Or.inr rfl) (pe_callB (kCa (r := rSum) (K := K) (cr_sum rfl) rfl) (by rfl) n_sum (by decide +kernel) (pa_cons (pe_lc (own := [("across", 16), ("down", 17), ("parts_there", 14)]) (g := gTup K 3 (gCons (gName 16) (gCons (gName 17) (gCons (gName 14) gNil)))) (tt := tYes) rfl nd (kPi (r := fun K => iList K _) (K := K) (pi_list (kPe (r := fun K => tFld K _ _) (K := K) (pe_fld (pv 0) rfl) rfl)) rfl) (blkOk_by (own := [("across", 16), ("down", 17), ("parts_there", 14)]) (N := N_m_Handing_tell) (sc := (defScope sm_Handing_tell)) (by decide +kernel)) (fun _ _ _ _ _ => (pg_tup rfl (pgs_cons (pg_name (i := 16) nd rfl (by first | exact Or.inl rfl | exact Or.inr rfl)) (pgs_cons (pg_name (i := 17) nd rfl (by first | exact Or.inl rfl | exact Or.inr rfl)) (pgs_cons (pg_name (i := 14) nd rfl (by first | exact Or.inl rfl | exact Or.inr rfl)) pgs_nil))))) (fun _ _ _ _ _ => pts_nil) (fun _ _ _ _ _ => (pv 14))) pa_nil)))
      (pss_cons (ps_setLc (i := 8) (own := [("spot", 13), ("parts_there", 14)]) (g := gTup K 2 (gCons (gName 13) (gCons (gName 14) gNil))) (tt := tYes) rfl nd rfl rfl (sw_true rfl rfl rfl (by decide +kernel)) (kPi (r := fun K => iList K _) (K := K) (pi_list (pv 6)) rfl) (blkOk_by (own := [("spot", 13), ("parts_there", 14)]) (N := N_m_Handing_tell) (sc := (defScope sm_Handing_tell)) (by decide +kernel)) (fun _ _ _ _ _ => (pg_tup rfl (pgs_cons (pg_name (i := 13) nd rfl (by first | exact Or.inl rfl | exact Or.inr rfl)) (pgs_cons (pg_name (i := 14) nd rfl (by first | exact Or.inl rfl | exact Or.inr rfl)) pgs_nil)))) (fun _ _ _ _ _ => pts_nil) (fun _ _ _ _ _ => (pe_lc (own := [("number", 4)]) (g := gName 4) (tt := tYes) rfl nd (kPi (r := fun K => iList K _) (K := K) (pi_list (pv 5)) rfl) (blkOk_by (own := [("number", 4)]) (N := N_m_Handing_tell) (sc := (relS ({ kind := .function, names := [(".0", .local), ("spot", .local), ("parts_there", .cell), ("rest", .free), ("total", .free)], isGenerator := false, isCoroutine := false, more := [] } : Scope) (defScope sm_Handing_tell))) (by decide +kernel)) (fun _ _ _ _ _ => (pg_name (i := 4) nd rfl (by first | exact Or.inl rfl | exact Or.inr rfl))) (fun _ _ _ _ _ => pts_nil) (fun _ _ _ _ _ => (pe_op op_divA (pe_op op_mulA (pv 4) (pv 14)) (pv 7))))))
      (pss_cons (ps_for PassesOwn.never rfl (kPi (r := fun K => iEnum K _) (K := K) (pi_enum (by rfl) n_enumerate (pa_cons (pv 5) pa_nil)) rfl) (pg_tup rfl (pgs_cons (pg_name (i := 9) nd rfl (by first | exact Or.inl rfl | exact Or.inr rfl)) (pgs_cons (pg_name (i := 4) nd rfl (by first | exact Or.inl rfl | exact Or.inr rfl)) pgs_nil)))
      (pss_cons (ps_augS (pe_ix (kIx (r := rIxL) (K := K) ix_list rfl) (pv 8) pe_int (fun _ _ => rfl)) (pv 9) pget_list (pe_op op_sub (pv 4) (pe_callB (kCa (r := rSum) (K := K) (cr_sum rfl) rfl) (by rfl) n_sum (by decide +kernel) (pa_cons (pe_lc (own := [("row_of_one", 18)]) (g := gName 18) (tt := tYes) rfl nd (kPi (r := fun K => iList K _) (K := K) (pi_list (pv 8)) rfl) (blkOk_by (own := [("row_of_one", 18)]) (N := N_m_Handing_tell) (sc := (defScope sm_Handing_tell)) (by decide +kernel)) (fun _ _ _ _ _ => (pg_name (i := 18) nd rfl (by first | exact Or.inl rfl | exact Or.inr rfl))) (fun _ _ _ _ _ => pts_nil) (fun _ _ _ _ _ => (pe_ix (kIx (r := rIxL) (K := K) ix_list rfl) (pv 18) (pv 9) (fun _ _ => rfl)))) pa_nil))) ip_add set_list)
      pss_nil))
      (pss_cons (ps_for PassesOwn.never rfl (kPi (r := fun K => RZ.iZipA K _) (K := K) (RZ.pi_zipA (by rfl) n_zip (pa_cons (pv 6) (pa_cons (pv 8) pa_nil))) rfl) (pg_tup rfl (pgs_cons (pg_name (i := 10) nd rfl (by first | exact Or.inl rfl | exact Or.inr rfl)) (pgs_cons (pg_name (i := 11) nd rfl (by first | exact Or.inl rfl | exact Or.inr rfl)) pgs_nil)))
      (pss_cons (ps_expr (pe_meth (pv 0) c_Handing mt_m_Handing_more_at G_m_Handing_more_at (hr.mono (by decide)) b_m_Handing_more_at .nil pass0 (pa_cons (pe_ix (kIx (r := rIxT) (K := K) ix_tup rfl) (pv 10) pe_int (fun _ _ => rfl)) (pa_cons (pv 11) pa_nil))))
      pss_nil))
      pss_nil))))))), ?_⟩
    rintro as m R ⟨l_self, dx_self, l_self_own_wanted, ps_l_self_own_wanted, v_self, v_self_own_wanted, v_row, v_column, v_colour, r_, w_self, w_self_own_wanted, h0, rfl, rfl, rfl⟩ F D rfl hk hfin hnx
    unfold m_Handing_tell at h0
    show Wp _ _ _ [.rf l_self, .da (dI v_row), .da (dI v_column), .da ((dU dI) v_colour), .un, .un, .un, .un, .un, .un, .un, .un, .un, .un, .un, .un, .un, .un, .un] (([(l_self, obj C_Handing dx_self names_Handing [.rf l_self_own_wanted, .da ((dL (d3 dI dI dI)) v_self.1), .da (dS v_self.2.1), .da ((dL dI) v_self.2.2)])] : M) ++ nest (dU dI) l_self_own_wanted ps_l_self_own_wanted v_self_own_wanted)
    obtain ⟨t1, q2, h0⟩ := bindS h0
    obtain ⟨u4, q5, h0⟩ := bindS h0
    obtain ⟨v_rest6, q7, h0⟩ := bindS h0
    refine wp_asg (i := 5) (ev_eq (f := (dL dI)) (lc_end (lc_map (f2 := dI) (step := fun x => some ((fun (p_ : (Int × Int)) => (fun (v_number3 : Int) (v_told3 : Int) => (v_number3 - v_told3)) p_.1 p_.2) x)) (src_ZU (f := dI) (f2 := dI) (j := 4) (k := 12) (ea_cons (ev_nget (f := (dU dI)) (pre := ([(l_self, obj C_Handing dx_self names_Handing [.rf l_self_own_wanted, .da ((dL (d3 dI dI dI)) v_self.1), .da (dS v_self.2.1), .da ((dL dI) v_self.2.2)])] : M)) (ev_fld 0 0 (ev_rf (i := 0) rfl) rfl rfl pa_Handing_own_wanted (Nat.le_of_ble_eq_true rfl) c_Handing na_Handing_own_wanted) (ev_var (i := 1) rfl) (ev_var (i := 2) rfl) q2) (ea_cons (ev_var (i := 3) rfl) ea_nil))) (by decide) (fun _ => True.intro) q5 (mapO_pure _) (by rintro ⟨v_number3, v_told3⟩ y_ hx_ h_; cases h_; exact (ev_op (ev_var (i := 4) rfl) (ev_var (i := 12) rfl) rr_i)))) (Option.some.inj q7)) ?_
    show Wp _ _ _ [.rf l_self, .da (dI v_row), .da (dI v_column), .da ((dU dI) v_colour), .un, .da ((dL dI) v_rest6), .un, .un, .un, .un, .un, .un, .un, .un, .un, .un, .un, .un, .un] (([(l_self, obj C_Handing dx_self names_Handing [.rf l_self_own_wanted, .da ((dL (d3 dI dI dI)) v_self.1), .da (dS v_self.2.1), .da ((dL dI) v_self.2.2)])] : M) ++ nest (dU dI) l_self_own_wanted ps_l_self_own_wanted v_self_own_wanted)
    obtain ⟨t8, q9, h0⟩ := bindS h0
    refine wp_asg (i := 6) (ev_methP (mc := (([(l_self, obj C_Handing dx_self names_Handing [.rf l_self_own_wanted, .da ((dL (d3 dI dI dI)) v_self.1), .da (dS v_self.2.1), .da ((dL dI) v_self.2.2)])] : M) ++ nest (dU dI) l_self_own_wanted ps_l_self_own_wanted v_self_own_wanted)) (mc' := (([(l_self, obj C_Handing dx_self names_Handing [.rf l_self_own_wanted, .da ((dL (d3 dI dI dI)) v_self.1), .da (dS v_self.2.1), .da ((dL dI) v_self.2.2)])] : M) ++ nest (dU dI) l_self_own_wanted ps_l_self_own_wanted v_self_own_wanted)) (fr := []) (m3 := (([(l_self, obj C_Handing dx_self names_Handing [.rf l_self_own_wanted, .da ((dL (d3 dI dI dI)) v_self.1), .da (dS v_self.2.1), .da ((dL dI) v_self.2.2)])] : M) ++ nest (dU dI) l_self_own_wanted ps_l_self_own_wanted v_self_own_wanted)) 0 (ev_rf (i := 0) rfl) rfl (Nat.le_of_ble_eq_true rfl) nm_Handing_takers (ea_cons (ev_var (i := 1) rfl) (ea_cons (ev_var (i := 2) rfl) ea_nil)) (permB (by intro g_; simp only [List.map_append, List.sum_append, List.map_cons, List.sum_cons, List.map_nil, List.sum_nil]; omega)) (permB (by intro g_; simp only [List.map_append, List.sum_append, List.map_cons, List.sum_cons, List.map_nil, List.sum_nil]; omega)) ⟨_, ⟨_, _, _, _, _, _, _, _, _, q9, rfl, rfl, rfl⟩, fun _ _ h => h⟩) ?_
    show Wp _ _ _ [.rf l_self, .da (dI v_row), .da (dI v_column), .da ((dU dI) v_colour), .un, .da ((dL dI) v_rest6), .da ((dL (dP (dP dI dI) dI)) t8), .un, .un, .un, .un, .un, .un, .un, .un, .un, .un, .un, .un] (([(l_self, obj C_Handing dx_self names_Handing [.rf l_self_own_wanted, .da ((dL (d3 dI dI dI)) v_self.1), .da (dS v_self.2.1), .da ((dL dI) v_self.2.2)])] : M) ++ nest (dU dI) l_self_own_wanted ps_l_self_own_wanted v_self_own_wanted)
    refine wp_if (et_test (ev_op (ev_cb (ea_cons (ev_var (i := 6) rfl) ea_nil) (rc_lenL (f := (dP (dP dI dI) dI)))) (ev_int (i := 0)) rr_eqI)) (fun hc => ?_) (fun hc => ?_)
    · have h0 := condT hc h0
      obtain ⟨u11, q12, h0⟩ := bindS h0
      obtain ⟨v_own_lost13, q14, h0⟩ := bindS h0
      refine wp_fld 0 3 (ev_eq (f := (dL dI)) (lc_end (lc_map (f2 := dI) (step := fun x => some ((fun (p_ : (Int × Int)) => (fun (v_lost10 : Int) (v_number10 : Int) => (v_lost10 + v_number10)) p_.1 p_.2) x)) (src_ZL (f := dI) (f2 := dI) (j := 15) (k := 4) (ea_cons (ev_fld 0 3 (ev_rf (i := 0) rfl) rfl rfl pa_Handing_own_lost (Nat.le_of_ble_eq_true rfl) c_Handing na_Handing_own_lost) (ea_cons (ev_var (i := 5) rfl) ea_nil))) (by decide) (fun _ => True.intro) q12 (mapO_pure _) (by rintro ⟨v_lost10, v_number10⟩ y_ hx_ h_; cases h_; exact (ev_op (ev_var (i := 15) rfl) (ev_var (i := 4) rfl) rr_i)))) (Option.some.inj q14)) (ev_rf (i := 0) rfl) rfl rfl pa_Handing_own_lost (Nat.le_of_ble_eq_true rfl) (Nat.lt_of_le_of_lt (Nat.le_of_ble_eq_true (m := 100) rfl) (by decide)) c_Handing na_Handing_own_lost ?_
      show Wp _ _ _ [.rf l_self, .da (dI v_row), .da (dI v_column), .da ((dU dI) v_colour), .un, .da ((dL dI) v_rest6), .da ((dL (dP (dP dI dI) dI)) t8), .un, .un, .un, .un, .un, .un, .un, .un, .un, .un, .un, .un] (([(l_self, obj C_Handing dx_self names_Handing [.rf l_self_own_wanted, .da ((dL (d3 dI dI dI)) v_self.1), .da (dS v_self.2.1), .da ((dL dI) v_own_lost13)])] : M) ++ nest (dU dI) l_self_own_wanted ps_l_self_own_wanted v_self_own_wanted)
      have z0_ := Option.some.inj h0
      obtain ⟨e0_, z1_⟩ := Prod.mk.inj z0_
      obtain ⟨e1_, e2_⟩ := Prod.mk.inj z1_
      subst e0_
      subst e1_
      subst e2_
      exact wp_retNS hfin ⟨rfl, rfl⟩ (List.Sublist.append (List.Sublist.cons₂ _ (List.nil_sublist _)) (List.Sublist.refl _))
    · have h0 := condF hc h0
      refine wp_next ?_
      obtain ⟨u16, q17, h0⟩ := bindS h0
      obtain ⟨v_total18, q19, h0⟩ := bindS h0
      refine wp_asg (i := 7) (ev_eq (f := dI) (ev_cb (ea_cons (lc_end (lc_map (f2 := dI) (step := fun x => some ((fun (p_ : (Int × Int × Int)) => (fun (v_across15 : Int) (v_down15 : Int) (v_parts_there15 : Int) => v_parts_there15) p_.1 p_.2.1 p_.2.2) x)) (src_L3 (f := dI) (f2 := dI) (f3 := dI) (i := 16) (j := 17) (k := 14) (ev_fld 0 1 (ev_rf (i := 0) rfl) rfl rfl pa_Handing_own_shares (Nat.le_of_ble_eq_true rfl) c_Handing na_Handing_own_shares)) (by decide) (fun _ => True.intro) q17 (mapO_pure _) (by rintro ⟨v_across15, v_down15, v_parts_there15⟩ y_ hx_ h_; cases h_; exact (ev_var (i := 14) rfl)))) ea_nil) rc_sum) (Option.some.inj q19)) ?_
      show Wp _ _ _ [.rf l_self, .da (dI v_row), .da (dI v_column), .da ((dU dI) v_colour), .un, .da ((dL dI) v_rest6), .da ((dL (dP (dP dI dI) dI)) t8), .da (dI v_total18), .un, .un, .un, .un, .un, .un, .un, .un, .un, .un, .un] (([(l_self, obj C_Handing dx_self names_Handing [.rf l_self_own_wanted, .da ((dL (d3 dI dI dI)) v_self.1), .da (dS v_self.2.1), .da ((dL dI) v_self.2.2)])] : M) ++ nest (dU dI) l_self_own_wanted ps_l_self_own_wanted v_self_own_wanted)
      obtain ⟨u31, q32, h0⟩ := bindS h0
      obtain ⟨o33, q34, h0⟩ := bindS h0
      refine wp_asgNest dI (i := 8) (lcNestG (f := dI) (src_LP (f := (dP dI dI)) (f2 := dI) (j := 13) (k := 14) (ev_var (i := 6) rfl)) (by decide) (fun _ => True.intro) q32 q34 (by rintro ⟨v_spot21, v_parts_there21⟩ y_ hx_ h_ c_; obtain ⟨u27, q28, h_⟩ := bindS h_; obtain ⟨o29, q30, h_⟩ := bindS h_; cases h_; exact (en_end (lc_map (f2 := dI) (src_L (f := dI) (j := 4) (ev_var (i := 5) rfl)) (by decide) (fun _ => True.intro) q28 q30 (by rintro v_number22 y_ hx_ h_; obtain ⟨t23, q24, h_⟩ := bindS h_; obtain ⟨t25, q26, h_⟩ := bindS h_; cases h_; exact (ev_op (ev_op (ev_var (i := 4) rfl) (ev_var (i := 14) rfl) (rr_mul q24)) (ev_var (i := 7) rfl) (rr_div q26))))))) rfl (fun l_20 ps_l_20 nk_l_20 nks_l_20 => ?_)
      show Wp _ _ _ [.rf l_self, .da (dI v_row), .da (dI v_column), .da ((dU dI) v_colour), .un, .da ((dL dI) v_rest6), .da ((dL (dP (dP dI dI) dI)) t8), .da (dI v_total18), .rf l_20, .un, .un, .un, .un, .un, .un, .un, .un, .un, .un] ((([(l_self, obj C_Handing dx_self names_Handing [.rf l_self_own_wanted, .da ((dL (d3 dI dI dI)) v_self.1), .da (dS v_self.2.1), .da ((dL dI) v_self.2.2)])] : M) ++ nest (dU dI) l_self_own_wanted ps_l_self_own_wanted v_self_own_wanted) ++ nest dI l_20 ps_l_20 o33)
      obtain ⟨c74, q91, h0⟩ := bindS h0
      refine wp_forF (fun (s_ : (List (List Int))) => [.rf l_self, .da (dI v_row), .da (dI v_column), .da ((dU dI) v_colour), .un, .da ((dL dI) v_rest6), .da ((dL (dP (dP dI dI) dI)) t8), .da (dI v_total18), .rf l_20, .un, .un, .un, .un, .un, .un, .un, .un, .un, .un]) (fun (s_ : (List (List Int))) => ((([(l_self, obj C_Handing dx_self names_Handing [.rf l_self_own_wanted, .da ((dL (d3 dI dI dI)) v_self.1), .da (dS v_self.2.1), .da ((dL dI) v_self.2.2)])] : M) ++ nest (dU dI) l_self_own_wanted ps_l_self_own_wanted v_self_own_wanted) ++ nest dI l_20 ps_l_20 s_)) (src_En (f := dI) (j := 9) (k := 4) (ea_cons (ev_var (i := 5) rfl) ea_nil)) q91 (.cons .rfl (.cons .rfl (.cons .rfl (.cons .rfl (.cons .un (.cons .rfl (.cons .rfl (.cons .rfl (.cons .rfl (.cons .un (.cons .un (.cons .un (.cons .un (.cons .un (.cons .un (.cons .un (.cons .un (.cons .un (.cons .un Wks.nil))))))))))))))))))) rfl (fun _ => True.intro) ?_ ?_
      · rintro lo1 c51 ⟨v_place35, v_number36⟩ s_ hx1 h1 D1 he1 hn1 hct1
        show Wp _ _ _ [.rf l_self, .da (dI v_row), .da (dI v_column), .da ((dU dI) v_colour), .da (dI v_number36), .da ((dL dI) v_rest6), .da ((dL (dP (dP dI dI) dI)) t8), .da (dI v_total18), .rf l_20, .da (dI v_place35), .un, .un, .un, .un, .un, .un, .un, .un, .un] ((([(l_self, obj C_Handing dx_self names_Handing [.rf l_self_own_wanted, .da ((dL (d3 dI dI dI)) v_self.1), .da (dS v_self.2.1), .da ((dL dI) v_self.2.2)])] : M) ++ nest (dU dI) l_self_own_wanted ps_l_self_own_wanted v_self_own_wanted) ++ nest dI l_20 ps_l_20 c51)
        obtain ⟨t63, q64, h1⟩ := bindS h1
        obtain ⟨u68, q69, h1⟩ := bindS h1
        obtain ⟨o70, q71, h1⟩ := bindS h1
        obtain ⟨c72, q73, h1⟩ := bindS h1
        refine wp_naug (pre := (([(l_self, obj C_Handing dx_self names_Handing [.rf l_self_own_wanted, .da ((dL (d3 dI dI dI)) v_self.1), .da (dS v_self.2.1), .da ((dL dI) v_self.2.2)])] : M) ++ nest (dU dI) l_self_own_wanted ps_l_self_own_wanted v_self_own_wanted)) (fi := fun i j => i + j) (ev_rf (i := 8) rfl) (ev_int (i := 0)) (ev_var (i := 9) rfl) q64 (ev_op (ev_var (i := 4) rfl) (ev_cb (ea_cons (lc_end (lc_N (f := dI) (pre := (([(l_self, obj C_Handing dx_self names_Handing [.rf l_self_own_wanted, .da ((dL (d3 dI dI dI)) v_self.1), .da (dS v_self.2.1), .da ((dL dI) v_self.2.2)])] : M) ++ nest (dU dI) l_self_own_wanted ps_l_self_own_wanted v_self_own_wanted)) (f2 := dI) (ev_rf (i := 8) rfl) (by decide) q69 q71 (by rintro p_v_row_of_one65 v_row_of_one65 y_ hm_v_row_of_one65 h_; obtain ⟨t66, q67, h_⟩ := bindS h_; cases h_; exact (ev_getR (f := dI) (pre := (([(l_self, obj C_Handing dx_self names_Handing [.rf l_self_own_wanted, .da ((dL (d3 dI dI dI)) v_self.1), .da (dS v_self.2.1), .da ((dL dI) v_self.2.2)])] : M) ++ nest (dU dI) l_self_own_wanted ps_l_self_own_wanted v_self_own_wanted)) (j := 18) rfl hm_v_row_of_one65 (ev_var (i := 9) rfl) q67)))) ea_nil) rc_sum) rr_i) q73 ?_
        show Wp _ _ _ [.rf l_self, .da (dI v_row), .da (dI v_column), .da ((dU dI) v_colour), .da (dI v_number36), .da ((dL dI) v_rest6), .da ((dL (dP (dP dI dI) dI)) t8), .da (dI v_total18), .rf l_20, .da (dI v_place35), .un, .un, .un, .un, .un, .un, .un, .un, .un] ((([(l_self, obj C_Handing dx_self names_Handing [.rf l_self_own_wanted, .da ((dL (d3 dI dI dI)) v_self.1), .da (dS v_self.2.1), .da ((dL dI) v_self.2.2)])] : M) ++ nest (dU dI) l_self_own_wanted ps_l_self_own_wanted v_self_own_wanted) ++ nest dI l_20 ps_l_20 c72)
        cases h1
        exact wp_next fun σ H a => hn1 σ H (at_weak (.cons .rfl (.cons .rfl (.cons .rfl (.cons .rfl (.cons .un (.cons .rfl (.cons .rfl (.cons .rfl (.cons .rfl (.cons .un (.cons .un (.cons .un (.cons .un (.cons .un (.cons .un (.cons .un (.cons .un (.cons .un (.cons .un Wks.nil))))))))))))))))))) a)
      · show Wp _ _ _ [.rf l_self, .da (dI v_row), .da (dI v_column), .da ((dU dI) v_colour), .un, .da ((dL dI) v_rest6), .da ((dL (dP (dP dI dI) dI)) t8), .da (dI v_total18), .rf l_20, .un, .un, .un, .un, .un, .un, .un, .un, .un, .un] ((([(l_self, obj C_Handing dx_self names_Handing [.rf l_self_own_wanted, .da ((dL (d3 dI dI dI)) v_self.1), .da (dS v_self.2.1), .da ((dL dI) v_self.2.2)])] : M) ++ nest (dU dI) l_self_own_wanted ps_l_self_own_wanted v_self_own_wanted) ++ nest dI l_20 ps_l_20 c74)
        refine wp_frzN (f := dI) (i := 8) (pre := (([(l_self, obj C_Handing dx_self names_Handing [.rf l_self_own_wanted, .da ((dL (d3 dI dI dI)) v_self.1), .da (dS v_self.2.1), .da ((dL dI) v_self.2.2)])] : M) ++ nest (dU dI) l_self_own_wanted ps_l_self_own_wanted v_self_own_wanted)) rfl nk_l_20 nks_l_20 ?_
        show Wp _ _ _ [.rf l_self, .da (dI v_row), .da (dI v_column), .da ((dU dI) v_colour), .un, .da ((dL dI) v_rest6), .da ((dL (dP (dP dI dI) dI)) t8), .da (dI v_total18), .da ((dL (dL dI)) c74), .un, .un, .un, .un, .un, .un, .un, .un, .un, .un] (([(l_self, obj C_Handing dx_self names_Handing [.rf l_self_own_wanted, .da ((dL (d3 dI dI dI)) v_self.1), .da (dS v_self.2.1), .da ((dL dI) v_self.2.2)])] : M) ++ nest (dU dI) l_self_own_wanted ps_l_self_own_wanted v_self_own_wanted)
        obtain ⟨c89, q90, h0⟩ := bindS h0
        refine wp_forF (fun (s_ : (List (List (List Int)))) => [.rf l_self, .da (dI v_row), .da (dI v_column), .da ((dU dI) v_colour), .un, .da ((dL dI) v_rest6), .da ((dL (dP (dP dI dI) dI)) t8), .da (dI v_total18), .da ((dL (dL dI)) c74), .un, .un, .un, .un, .un, .un, .un, .un, .un, .un]) (fun (s_ : (List (List (List Int)))) => (([(l_self, obj C_Handing dx_self names_Handing [.rf l_self_own_wanted, .da ((dL (d3 dI dI dI)) v_self.1), .da (dS v_self.2.1), .da ((dL dI) v_self.2.2)])] : M) ++ nest (dU dI) l_self_own_wanted ps_l_self_own_wanted s_)) (src_ZL (f := (dP (dP dI dI) dI)) (f2 := (dL dI)) (j := 10) (k := 11) (ea_cons (ev_var (i := 6) rfl) (ea_cons (ev_var (i := 8) rfl) ea_nil))) q90 (.cons .rfl (.cons .rfl (.cons .rfl (.cons .rfl (.cons .un (.cons .rfl (.cons .rfl (.cons .rfl (.cons .rfl (.cons .un (.cons .un (.cons .un (.cons .un (.cons .un (.cons .un (.cons .un (.cons .un (.cons .un (.cons .un Wks.nil))))))))))))))))))) rfl (fun _ => True.intro) ?_ ?_
        · rintro lo1 c82 ⟨v_taker75, v_more76⟩ s_ hx1 h1 D1 he1 hn1 hct1
          show Wp _ _ _ [.rf l_self, .da (dI v_row), .da (dI v_column), .da ((dU dI) v_colour), .un, .da ((dL dI) v_rest6), .da ((dL (dP (dP dI dI) dI)) t8), .da (dI v_total18), .da ((dL (dL dI)) c74), .un, .da ((dP (dP dI dI) dI) v_taker75), .da ((dL dI) v_more76), .un, .un, .un, .un, .un, .un, .un] (([(l_self, obj C_Handing dx_self names_Handing [.rf l_self_own_wanted, .da ((dL (d3 dI dI dI)) v_self.1), .da (dS v_self.2.1), .da ((dL dI) v_self.2.2)])] : M) ++ nest (dU dI) l_self_own_wanted ps_l_self_own_wanted c82)
          obtain ⟨⟨t86, c87⟩, q88, h1⟩ := bindS h1
          refine wp_expr (ev_methP (mc := (([(l_self, obj C_Handing dx_self names_Handing [.rf l_self_own_wanted, .da ((dL (d3 dI dI dI)) v_self.1), .da (dS v_self.2.1), .da ((dL dI) v_self.2.2)])] : M) ++ nest (dU dI) l_self_own_wanted ps_l_self_own_wanted c82)) (mc' := (([(l_self, obj C_Handing dx_self names_Handing [.rf l_self_own_wanted, .da ((dL (d3 dI dI dI)) v_self.1), .da (dS v_self.2.1), .da ((dL dI) v_self.2.2)])] : M) ++ nest (dU dI) l_self_own_wanted ps_l_self_own_wanted c87)) (fr := []) (m3 := (([(l_self, obj C_Handing dx_self names_Handing [.rf l_self_own_wanted, .da ((dL (d3 dI dI dI)) v_self.1), .da (dS v_self.2.1), .da ((dL dI) v_self.2.2)])] : M) ++ nest (dU dI) l_self_own_wanted ps_l_self_own_wanted c87)) 0 (ev_rf (i := 0) rfl) rfl (Nat.le_of_ble_eq_true rfl) nm_Handing_more_at (ea_cons (ev_op (ev_var (i := 10) rfl) (ev_int (i := 0)) (rr_ixT (dl := [(dP dI dI) (v_taker75).1, dI (v_taker75).2]) rfl)) (ea_cons (ev_var (i := 11) rfl) ea_nil)) (permB (by intro g_; simp only [List.map_append, List.sum_append, List.map_cons, List.sum_cons, List.map_nil, List.sum_nil]; omega)) (permB (by intro g_; simp only [List.map_append, List.sum_append, List.map_cons, List.sum_cons, List.map_nil, List.sum_nil]; omega)) ⟨_, ⟨_, _, _, _, _, _, _, _, _, _, q88, rfl, rfl, rfl⟩, fun _ _ h => h⟩) ?_
          show Wp _ _ _ [.rf l_self, .da (dI v_row), .da (dI v_column), .da ((dU dI) v_colour), .un, .da ((dL dI) v_rest6), .da ((dL (dP (dP dI dI) dI)) t8), .da (dI v_total18), .da ((dL (dL dI)) c74), .un, .da ((dP (dP dI dI) dI) v_taker75), .da ((dL dI) v_more76), .un, .un, .un, .un, .un, .un, .un] (([(l_self, obj C_Handing dx_self names_Handing [.rf l_self_own_wanted, .da ((dL (d3 dI dI dI)) v_self.1), .da (dS v_self.2.1), .da ((dL dI) v_self.2.2)])] : M) ++ nest (dU dI) l_self_own_wanted ps_l_self_own_wanted c87)
          cases h1
          exact wp_next fun σ H a => hn1 σ H (at_weak (.cons .rfl (.cons .rfl (.cons .rfl (.cons .rfl (.cons .un (.cons .rfl (.cons .rfl (.cons .rfl (.cons .rfl (.cons .un (.cons .un (.cons .un (.cons .un (.cons .un (.cons .un (.cons .un (.cons .un (.cons .un (.cons .un Wks.nil))))))))))))))))))) a)
        · show Wp _ _ _ [.rf l_self, .da (dI v_row), .da (dI v_column), .da ((dU dI) v_colour), .un, .da ((dL dI) v_rest6), .da ((dL (dP (dP dI dI) dI)) t8), .da (dI v_total18), .da ((dL (dL dI)) c74), .un, .un, .un, .un, .un, .un, .un, .un, .un, .un] (([(l_self, obj C_Handing dx_self names_Handing [.rf l_self_own_wanted, .da ((dL (d3 dI dI dI)) v_self.1), .da (dS v_self.2.1), .da ((dL dI) v_self.2.2)])] : M) ++ nest (dU dI) l_self_own_wanted ps_l_self_own_wanted c89)
          cases h0
          exact wp_fall hfin hnx ⟨rfl, rfl⟩ (List.Sublist.append (List.Sublist.cons₂ _ (List.nil_sublist _)) (List.Sublist.refl _))
end K83
set_option maxHeartbeats 2000000
namespace K83
open PySem PySem.Spec PyProof.Rows L2 Evl FC
theorem ok_m_wanted_by {P : Program} {w : World} {K : PySem.W.Frag} {mg : Str → Option Value} {base : Heap} {f : Addr} {fd : FuncData} (FF : Fun K "wanted_by" "wanted_by" sm_wanted_by f fd) {C_Handing : Addr} (c_Handing : Cls K C_Handing) (na_Handing_own_wanted : NoAttr K C_Handing "own_wanted") {f_m_Handing_init : Addr} {fd_m_Handing_init : FuncData} (G_m_Handing_init : FnOk P w K mg base CX0 1 f_m_Handing_init fd_m_Handing_init ["self", "picture", "shares", "way"] (spOf K (pf_m_Handing_init C_Handing))) (mk_Handing : Mk K C_Handing f_m_Handing_init) (gc_Handing : mg "Handing" = some (.ref C_Handing)) (b_m_Handing_init : Binds K fd_m_Handing_init ["self", "picture", "shares", "way"] []) {f_m_Handing_spots_in_turn : Addr} {fd_m_Handing_spots_in_turn : FuncData} (G_m_Handing_spots_in_turn : FnOk P w K mg base CX0 2 f_m_Handing_spots_in_turn fd_m_Handing_spots_in_turn ["self"] (spOf K (pf_m_Handing_spots_in_turn C_Handing))) (mt_m_Handing_spots_in_turn : Meth K C_Handing "spots_in_turn" f_m_Handing_spots_in_turn) (b_m_Handing_spots_in_turn : Binds K fd_m_Handing_spots_in_turn ["self"] []) {f_m_Handing_tell : Addr} {fd_m_Handing_tell : FuncData} (G_m_Handing_tell : FnOk P w K mg base CX0 3 f_m_Handing_tell fd_m_Handing_tell ["self", "row", "column", "colour"] (spOf K (pf_m_Handing_tell C_Handing))) (mt_m_Handing_tell : Meth K C_Handing "tell" f_m_Handing_tell) (b_m_Handing_tell : Binds K fd_m_Handing_tell ["self", "row", "column", "colour"] []) (n_list : mg "list" = none) : FnOk P w K mg base CX0 4 f fd ["picture", "palette", "shares", "way", "numbers"] (spOf K (pf_m_wanted_by)) := by
  refine ok_of (N := N_m_wanted_by) FF sc_m_wanted_by (fun as m R hG => ?_) (fun cdv A outer s H E hr => ?_)
  · obtain ⟨v_picture, v_palette, v_shares, v_way, v_numbers, r_, _, rfl, _⟩ := hG
    rfl
  · have nd : (N_m_wanted_by : List Str).Nodup := sc_m_wanted_by.nd
    refine ⟨_, (pss_cons (ps_set (i := 5) nd rfl (Or.inl rfl) (pe_make mk_Handing G_m_Handing_init (hr.mono (by decide)) (by rfl) gc_Handing b_m_Handing_init .nil pass0 (pa_cons (pv 0) (pa_cons (pv 2) (pa_cons (pv 3) pa_nil)))))
      (pss_cons (ps_for PassesOwn.never rfl (kPi (r := fun K => iList K _) (K := K) (pi_list (pe_meth0 (pv 5) c_Handing mt_m_Handing_spots_in_turn G_m_Handing_spots_in_turn (hr.mono (by decide)) b_m_Handing_spots_in_turn .nil pass0)) rfl) (pg_tup rfl (pgs_cons (pg_name (i := 6) nd rfl (by first | exact Or.inl rfl | exact Or.inr rfl)) (pgs_cons (pg_name (i := 7) nd rfl (by first | exact Or.inl rfl | exact Or.inr rfl)) pgs_nil)))
      (pss_cons (ps_expr (pe_meth (pv 5) c_Handing mt_m_Handing_tell G_m_Handing_tell (hr.mono (by decide)) b_m_Handing_tell .nil pass0 (pa_cons (pv 6) (pa_cons (pv 7) (pa_cons (pe_ix (kIx (r := rIxL) (K := K) ix_list rfl) (pv 1) (pe_ix (kIx (r := rIxL) (K := K) ix_list rfl) (pe_ix (kIx (r := rIxL) (K := K) ix_list rfl) (pv 4) (pv 6) (fun _ _ => rfl)) (pv 7) (fun _ _ => rfl)) (fun _ _ => rfl)) pa_nil)))))
      pss_nil))
      (pss_cons (ps_ret (pe_lc (own := [("row", 6)]) (g := gName 6) (tt := tYes) rfl nd (kPi (r := fun K => iList K _) (K := K) (pi_list (kPe (r := fun K => tFld K _ _) (K := K) (pe_fld (pv 5) rfl) rfl)) rfl) (blkOk_by (own := [("row", 6)]) (N := N_m_wanted_by) (sc := (defScope sm_wanted_by)) (by decide +kernel)) (fun _ _ _ _ _ => (pg_name (i := 6) nd rfl (by first | exact Or.inl rfl | exact Or.inr rfl))) (fun _ _ _ _ _ => pts_nil) (fun _ _ _ _ _ => (pe_callTy (kCa (r := rListOf) (K := K) call_list_of rfl) (by rfl) n_list (by decide +kernel) (pa_cons (pv 6) pa_nil))))) pss_nil))), ?_⟩
    rintro as m R ⟨v_picture, v_palette, v_shares, v_way, v_numbers, r_, h0, rfl, rfl, rfl⟩ F D rfl hk hfin hnx
    unfold m_wanted_by at h0
    show Wp _ _ _ [.da ((dL (dL (dU dI))) v_picture), .da ((dL (dU dI)) v_palette), .da ((dL (d3 dI dI dI)) v_shares), .da (dS v_way), .da ((dL (dL dI)) v_numbers), .un, .un, .un] []
    obtain ⟨⟨c1, c2⟩, q3, h0⟩ := bindS h0
    refine wp_make (names := names_Handing) (Good := (fun l_4 dx_5 m2_ => ∃ l_6 ps_l_6, m2_ = (([(l_4, obj C_Handing dx_5 names_Handing [.rf l_6, .da ((dL (d3 dI dI dI)) c1.1), .da (dS c1.2.1), .da ((dL dI) c1.2.2)])] : M) ++ nest (dU dI) l_6 ps_l_6 c2))) (i := 5) (ea_cons (ev_var (i := 0) rfl) (ea_cons (ev_var (i := 2) rfl) (ea_cons (ev_var (i := 3) rfl) ea_nil))) (fun p_ dx_ => ⟨_, ⟨_, _, _, _, _, _, _, q3, rfl, rfl, rfl⟩, fun _ _ hr_ => hr_⟩) ?_ rfl
    rintro l_4 dx_5 _ ⟨l_6, ps_l_6, rfl⟩ nk_l_4
    show Wp _ _ _ [.da ((dL (dL (dU dI))) v_picture), .da ((dL (dU dI)) v_palette), .da ((dL (d3 dI dI dI)) v_shares), .da (dS v_way), .da ((dL (dL dI)) v_numbers), .rf l_4, .un, .un] (([(l_4, obj C_Handing dx_5 names_Handing [.rf l_6, .da ((dL (d3 dI dI dI)) c1.1), .da (dS c1.2.1), .da ((dL dI) c1.2.2)])] : M) ++ nest (dU dI) l_6 ps_l_6 c2)
    obtain ⟨t7, q8, h0⟩ := bindS h0
    obtain ⟨⟨c33, c34⟩, q38, h0⟩ := bindS h0
    refine wp_forF (fun (s_ : ((List (Int × Int × Int)) × Str × (List Int)) × (List (List (List Int)))) => [.da ((dL (dL (dU dI))) v_picture), .da ((dL (dU dI)) v_palette), .da ((dL (d3 dI dI dI)) v_shares), .da (dS v_way), .da ((dL (dL dI)) v_numbers), .rf l_4, .un, .un]) (fun (s_ : ((List (Int × Int × Int)) × Str × (List Int)) × (List (List (List Int)))) => (([(l_4, obj C_Handing dx_5 names_Handing [.rf l_6, .da ((dL (d3 dI dI dI)) s_.1.1), .da (dS s_.1.2.1), .da ((dL dI) s_.1.2.2)])] : M) ++ nest (dU dI) l_6 ps_l_6 s_.2)) (src_LP (f := dI) (f2 := dI) (j := 6) (k := 7) (ev_methP (mc := (([(l_4, obj C_Handing dx_5 names_Handing [.rf l_6, .da ((dL (d3 dI dI dI)) c1.1), .da (dS c1.2.1), .da ((dL dI) c1.2.2)])] : M) ++ nest (dU dI) l_6 ps_l_6 c2)) (mc' := (([(l_4, obj C_Handing dx_5 names_Handing [.rf l_6, .da ((dL (d3 dI dI dI)) c1.1), .da (dS c1.2.1), .da ((dL dI) c1.2.2)])] : M) ++ nest (dU dI) l_6 ps_l_6 c2)) (fr := []) (m3 := (([(l_4, obj C_Handing dx_5 names_Handing [.rf l_6, .da ((dL (d3 dI dI dI)) c1.1), .da (dS c1.2.1), .da ((dL dI) c1.2.2)])] : M) ++ nest (dU dI) l_6 ps_l_6 c2)) 0 (ev_rf (i := 5) rfl) rfl (Nat.le_of_ble_eq_true rfl) nm_Handing_spots_in_turn ea_nil (permB (by intro g_; simp only [List.map_append, List.sum_append, List.map_cons, List.sum_cons, List.map_nil, List.sum_nil]; omega)) (permB (by intro g_; simp only [List.map_append, List.sum_append, List.map_cons, List.sum_cons, List.map_nil, List.sum_nil]; omega)) ⟨_, ⟨_, _, _, _, _, _, _, q8, rfl, rfl, rfl⟩, fun _ _ h => h⟩)) q38 (.cons .rfl (.cons .rfl (.cons .rfl (.cons .rfl (.cons .rfl (.cons .rfl (.cons .un (.cons .un Wks.nil)))))))) rfl (fun _ => True.intro) ?_ ?_
    · rintro lo1 ⟨c11, c12⟩ ⟨v_row9, v_column10⟩ s_ hx1 h1 D1 he1 hn1 hct1
      show Wp _ _ _ [.da ((dL (dL (dU dI))) v_picture), .da ((dL (dU dI)) v_palette), .da ((dL (d3 dI dI dI)) v_shares), .da (dS v_way), .da ((dL (dL dI)) v_numbers), .rf l_4, .da (dI v_row9), .da (dI v_column10)] (([(l_4, obj C_Handing dx_5 names_Handing [.rf l_6, .da ((dL (d3 dI dI dI)) c11.1), .da (dS c11.2.1), .da ((dL dI) c11.2.2)])] : M) ++ nest (dU dI) l_6 ps_l_6 c12)
      obtain ⟨t23, q24, h1⟩ := bindS h1
      obtain ⟨t25, q26, h1⟩ := bindS h1
      obtain ⟨t27, q28, h1⟩ := bindS h1
      obtain ⟨⟨t29, c30, c31⟩, q32, h1⟩ := bindS h1
      refine wp_expr (ev_methP (mc := (([(l_4, obj C_Handing dx_5 names_Handing [.rf l_6, .da ((dL (d3 dI dI dI)) c11.1), .da (dS c11.2.1), .da ((dL dI) c11.2.2)])] : M) ++ nest (dU dI) l_6 ps_l_6 c12)) (mc' := (([(l_4, obj C_Handing dx_5 names_Handing [.rf l_6, .da ((dL (d3 dI dI dI)) c30.1), .da (dS c30.2.1), .da ((dL dI) c30.2.2)])] : M) ++ nest (dU dI) l_6 ps_l_6 c31)) (fr := []) (m3 := (([(l_4, obj C_Handing dx_5 names_Handing [.rf l_6, .da ((dL (d3 dI dI dI)) c30.1), .da (dS c30.2.1), .da ((dL dI) c30.2.2)])] : M) ++ nest (dU dI) l_6 ps_l_6 c31)) 0 (ev_rf (i := 5) rfl) rfl (Nat.le_of_ble_eq_true rfl) nm_Handing_tell (ea_cons (ev_var (i := 6) rfl) (ea_cons (ev_var (i := 7) rfl) (ea_cons (ev_op (ev_var (i := 1) rfl) (ev_op (ev_op (ev_var (i := 4) rfl) (ev_var (i := 6) rfl) (rr_ixL (f := (dL dI)) q24)) (ev_var (i := 7) rfl) (rr_ixL (f := dI) q26)) (rr_ixL (f := (dU dI)) q28)) ea_nil))) (permB (by intro g_; simp only [List.map_append, List.sum_append, List.map_cons, List.sum_cons, List.map_nil, List.sum_nil]; omega)) (permB (by intro g_; simp only [List.map_append, List.sum_append, List.map_cons, List.sum_cons, List.map_nil, List.sum_nil]; omega)) ⟨_, ⟨_, _, _, _, _, _, _, _, _, _, _, _, q32, rfl, rfl, rfl⟩, fun _ _ h => h⟩) ?_
      show Wp _ _ _ [.da ((dL (dL (dU dI))) v_picture), .da ((dL (dU dI)) v_palette), .da ((dL (d3 dI dI dI)) v_shares), .da (dS v_way), .da ((dL (dL dI)) v_numbers), .rf l_4, .da (dI v_row9), .da (dI v_column10)] (([(l_4, obj C_Handing dx_5 names_Handing [.rf l_6, .da ((dL (d3 dI dI dI)) c30.1), .da (dS c30.2.1), .da ((dL dI) c30.2.2)])] : M) ++ nest (dU dI) l_6 ps_l_6 c31)
      cases h1
      exact wp_next fun σ H a => hn1 σ H (at_weak (.cons .rfl (.cons .rfl (.cons .rfl (.cons .rfl (.cons .rfl (.cons .rfl (.cons .un (.cons .un Wks.nil)))))))) a)
    · show Wp _ _ _ [.da ((dL (dL (dU dI))) v_picture), .da ((dL (dU dI)) v_palette), .da ((dL (d3 dI dI dI)) v_shares), .da (dS v_way), .da ((dL (dL dI)) v_numbers), .rf l_4, .un, .un] (([(l_4, obj C_Handing dx_5 names_Handing [.rf l_6, .da ((dL (d3 dI dI dI)) c33.1), .da (dS c33.2.1), .da ((dL dI) c33.2.2)])] : M) ++ nest (dU dI) l_6 ps_l_6 c34)
      obtain ⟨u36, q37, h0⟩ := bindS h0
      have e0_ := Option.some.inj h0
      subst e0_
      exact wp_retS (tz := tNext) (lc_end (lc_N (f := (dU dI)) (pre := ([(l_4, obj C_Handing dx_5 names_Handing [.rf l_6, .da ((dL (d3 dI dI dI)) c33.1), .da (dS c33.2.1), .da ((dL dI) c33.2.2)])] : M)) (f2 := (dL (dU dI))) (step := fun x => some ((fun (v_row35 : (List (List Int))) => v_row35) x)) (ev_fld 0 0 (ev_rf (i := 5) rfl) rfl rfl pa_Handing_own_wanted (Nat.le_of_ble_eq_true rfl) c_Handing na_Handing_own_wanted) (by decide) q37 (mapO_pure _) (by rintro p_v_row35 v_row35 y_ hm_v_row35 h_; cases h_; exact (ev_listR (f := (dU dI)) (pre := ([(l_4, obj C_Handing dx_5 names_Handing [.rf l_6, .da ((dL (d3 dI dI dI)) c33.1), .da (dS c33.2.1), .da ((dL dI) c33.2.2)])] : M)) (j := 6) rfl hm_v_row35)))) hfin ⟨rfl, rfl⟩ (List.nil_sublist _)
end K83
set_option maxHeartbeats 2000000
namespace K83
open PySem PySem.Spec PyProof.Rows L2 Evl FC
theorem ok_m_handed_on {P : Program} {w : World} {K : PySem.W.Frag} {mg : Str → Option Value} {base : Heap} {f : Addr} {fd : FuncData} (FF : Fun K "handed_on" "handed_on" sm_handed_on f fd) {C_Handing : Addr} (c_Handing : Cls K C_Handing) (na_Handing_own_lost : NoAttr K C_Handing "own_lost") {f_m_Handing_init : Addr} {fd_m_Handing_init : FuncData} (G_m_Handing_init : FnOk P w K mg base CX0 1 f_m_Handing_init fd_m_Handing_init ["self", "picture", "shares", "way"] (spOf K (pf_m_Handing_init C_Handing))) (mk_Handing : Mk K C_Handing f_m_Handing_init) (gc_Handing : mg "Handing" = some (.ref C_Handing)) (b_m_Handing_init : Binds K fd_m_Handing_init ["self", "picture", "shares", "way"] []) {f_m_Handing_spots_in_turn : Addr} {fd_m_Handing_spots_in_turn : FuncData} (G_m_Handing_spots_in_turn : FnOk P w K mg base CX0 2 f_m_Handing_spots_in_turn fd_m_Handing_spots_in_turn ["self"] (spOf K (pf_m_Handing_spots_in_turn C_Handing))) (mt_m_Handing_spots_in_turn : Meth K C_Handing "spots_in_turn" f_m_Handing_spots_in_turn) (b_m_Handing_spots_in_turn : Binds K fd_m_Handing_spots_in_turn ["self"] []) {f_m_Handing_tell : Addr} {fd_m_Handing_tell : FuncData} (G_m_Handing_tell : FnOk P w K mg base CX0 3 f_m_Handing_tell fd_m_Handing_tell ["self", "row", "column", "colour"] (spOf K (pf_m_Handing_tell C_Handing))) (mt_m_Handing_tell : Meth K C_Handing "tell" f_m_Handing_tell) (b_m_Handing_tell : Binds K fd_m_Handing_tell ["self", "row", "column", "colour"] []) {f_m_Handing_wanted_at : Addr} {fd_m_Handing_wanted_at : FuncData} (G_m_Handing_wanted_at : FnOk P w K mg base CX0 1 f_m_Handing_wanted_at fd_m_Handing_wanted_at ["self", "row", "column"] (spOf K (pf_m_Handing_wanted_at C_Handing))) (mt_m_Handing_wanted_at : Meth K C_Handing "wanted_at" f_m_Handing_wanted_at) (b_m_Handing_wanted_at : Binds K fd_m_Handing_wanted_at ["self", "row", "column"] []) {f_m_nearest : Addr} {fd_m_nearest : FuncData} (G_m_nearest : FnOk P w K mg base CX0 3 f_m_nearest fd_m_nearest ["palette", "colour"] (spOf K (pf_m_nearest))) (g_m_nearest : mg "nearest" = some (.ref f_m_nearest)) (k_m_nearest : PySem.W.keepIn K (.ref f_m_nearest) = true) (b_m_nearest : Binds K fd_m_nearest ["palette", "colour"] []) (n_len : mg "len" = none) (n_tuple : mg "tuple" = none) : FnOk P w K mg base CX0 4 f fd ["picture", "palette", "shares", "way"] (spOf K (pf_m_handed_on)) := by
  refine ok_of (N := N_m_handed_on) FF sc_m_handed_on (fun as m R hG => ?_) (fun cdv A outer s H E hr => ?_)
  · obtain ⟨v_picture, v_palette, v_shares, v_way, r_, _, rfl, _⟩ := hG
    rfl
  · have nd : (N_m_handed_on : List Str).Nodup := sc_m_handed_on.nd
    refine ⟨_, (pss_cons (ps_set (i := 4) nd rfl (Or.inl rfl) (pe_make mk_Handing G_m_Handing_init (hr.mono (by decide)) (by rfl) gc_Handing b_m_Handing_init .nil pass0 (pa_cons (pv 0) (pa_cons (pv 2) (pa_cons (pv 3) pa_nil)))))
      (pss_cons (ps_setLc (i := 6) (own := [("row", 5)]) (g := gName 5) (tt := tYes) rfl nd rfl rfl (sw_true rfl rfl rfl (by decide +kernel)) (kPi (r := fun K => iList K _) (K := K) (pi_list (pv 0)) rfl) (blkOk_by (own := [("row", 5)]) (N := N_m_handed_on) (sc := (defScope sm_handed_on)) (by decide +kernel)) (fun _ _ _ _ _ => (pg_name (i := 5) nd rfl (by first | exact Or.inl rfl | exact Or.inr rfl))) (fun _ _ _ _ _ => pts_nil) (fun _ _ _ _ _ => (pe_op op_rep (pe_lst (pa_cons pe_int pa_nil)) (pe_callB (kCa (r := rLenA) (K := K) call_len_seq rfl) (by rfl) n_len (by decide +kernel) (pa_cons (pv 5) pa_nil)))))
      (pss_cons (ps_for PassesOwn.never rfl (kPi (r := fun K => iList K _) (K := K) (pi_list (pe_meth0 (pv 4) c_Handing mt_m_Handing_spots_in_turn G_m_Handing_spots_in_turn (hr.mono (by decide)) b_m_Handing_spots_in_turn .nil pass0)) rfl) (pg_tup rfl (pgs_cons (pg_name (i := 5) nd rfl (by first | exact Or.inl rfl | exact Or.inr rfl)) (pgs_cons (pg_name (i := 7) nd rfl (by first | exact Or.inl rfl | exact Or.inr rfl)) pgs_nil)))
      (pss_cons (ps_set (i := 8) nd rfl (Or.inl rfl) (pe_call G_m_nearest (hr.mono (by decide)) (by rfl) g_m_nearest k_m_nearest b_m_nearest .nil pass0 (pa_cons (pv 1) (pa_cons (pe_meth (pv 4) c_Handing mt_m_Handing_wanted_at G_m_Handing_wanted_at (hr.mono (by decide)) b_m_Handing_wanted_at .nil pass0 (pa_cons (pv 5) (pa_cons (pv 7) pa_nil))) pa_nil))))
      (pss_cons (ps_asg (pv 8) (pg_sub (pe_ix (kIx (r := rIxL) (K := K) ix_list rfl) (pv 6) (pv 5) (fun _ _ => rfl)) (pv 7) set_list))
      (pss_cons (ps_expr (pe_meth (pv 4) c_Handing mt_m_Handing_tell G_m_Handing_tell (hr.mono (by decide)) b_m_Handing_tell .nil pass0 (pa_cons (pv 5) (pa_cons (pv 7) (pa_cons (pe_ix (kIx (r := rIxL) (K := K) ix_list rfl) (pv 1) (pv 8) (fun _ _ => rfl)) pa_nil)))))
      pss_nil))))
      (pss_cons (ps_ret (pe_tup (pa_cons (pv 6) (pa_cons (pe_callTy (kCa (r := rTupOf) (K := K) call_tuple_of rfl) (by rfl) n_tuple (by decide +kernel) (pa_cons (kPe (r := fun K => tFld K _ _) (K := K) (pe_fld (pv 4) rfl) rfl) pa_nil)) pa_nil)))) pss_nil)))), ?_⟩
    rintro as m R ⟨v_picture, v_palette, v_shares, v_way, r_, h0, rfl, rfl, rfl⟩ F D rfl hk hfin hnx
    unfold m_handed_on at h0
    show Wp _ _ _ [.da ((dL (dL (dU dI))) v_picture), .da ((dL (dU dI)) v_palette), .da ((dL (d3 dI dI dI)) v_shares), .da (dS v_way), .un, .un, .un, .un, .un] []
    obtain ⟨⟨c1, c2⟩, q3, h0⟩ := bindS h0
    refine wp_make (names := names_Handing) (Good := (fun l_4 dx_5 m2_ => ∃ l_6 ps_l_6, m2_ = (([(l_4, obj C_Handing dx_5 names_Handing [.rf l_6, .da ((dL (d3 dI dI dI)) c1.1), .da (dS c1.2.1), .da ((dL dI) c1.2.2)])] : M) ++ nest (dU dI) l_6 ps_l_6 c2))) (i := 4) (ea_cons (ev_var (i := 0) rfl) (ea_cons (ev_var (i := 2) rfl) (ea_cons (ev_var (i := 3) rfl) ea_nil))) (fun p_ dx_ => ⟨_, ⟨_, _, _, _, _, _, _, q3, rfl, rfl, rfl⟩, fun _ _ hr_ => hr_⟩) ?_ rfl
    rintro l_4 dx_5 _ ⟨l_6, ps_l_6, rfl⟩ nk_l_4
    show Wp _ _ _ [.da ((dL (dL (dU dI))) v_picture), .da ((dL (dU dI)) v_palette), .da ((dL (d3 dI dI dI)) v_shares), .da (dS v_way), .rf l_4, .un, .un, .un, .un] (([(l_4, obj C_Handing dx_5 names_Handing [.rf l_6, .da ((dL (d3 dI dI dI)) c1.1), .da (dS c1.2.1), .da ((dL dI) c1.2.2)])] : M) ++ nest (dU dI) l_6 ps_l_6 c2)
    obtain ⟨u11, q12, h0⟩ := bindS h0
    obtain ⟨o13, q14, h0⟩ := bindS h0
    refine wp_asgNest dI (i := 6) (lcNestG (f := dI) (src_L (f := (dL (dU dI))) (j := 5) (ev_var (i := 0) rfl)) (by decide) (fun _ => True.intro) q12 q14 (by rintro v_row8 y_ hx_ h_ c_; obtain ⟨t9, q10, h_⟩ := bindS h_; cases h_; exact (en_rep (f := dI) (show Ev _ _ _ _ (.da ((dL dI) ([(0 : Int)] : (List Int)))) _ from ev_lst (dl := [dI (0 : Int)]) (ea_cons (ev_int (i := 0)) ea_nil) (Nat.le_of_ble_eq_true rfl)) (ev_cb (ea_cons (ev_var (i := 5) rfl) ea_nil) (rc_lenL (f := (dU dI)))) q10))) rfl (fun l_7 ps_l_7 nk_l_7 nks_l_7 => ?_)
    show Wp _ _ _ [.da ((dL (dL (dU dI))) v_picture), .da ((dL (dU dI)) v_palette), .da ((dL (d3 dI dI dI)) v_shares), .da (dS v_way), .rf l_4, .un, .rf l_7, .un, .un] ((([(l_4, obj C_Handing dx_5 names_Handing [.rf l_6, .da ((dL (d3 dI dI dI)) c1.1), .da (dS c1.2.1), .da ((dL dI) c1.2.2)])] : M) ++ nest (dU dI) l_6 ps_l_6 c2) ++ nest dI l_7 ps_l_7 o13)
    obtain ⟨t15, q16, h0⟩ := bindS h0
    obtain ⟨⟨c46, c47, c48⟩, q49, h0⟩ := bindS h0
    refine wp_forF (fun (s_ : ((List (Int × Int × Int)) × Str × (List Int)) × (List (List (List Int))) × (List (List Int))) => [.da ((dL (dL (dU dI))) v_picture), .da ((dL (dU dI)) v_palette), .da ((dL (d3 dI dI dI)) v_shares), .da (dS v_way), .rf l_4, .un, .rf l_7, .un, .un]) (fun (s_ : ((List (Int × Int × Int)) × Str × (List Int)) × (List (List (List Int))) × (List (List Int))) => ((([(l_4, obj C_Handing dx_5 names_Handing [.rf l_6, .da ((dL (d3 dI dI dI)) s_.1.1), .da (dS s_.1.2.1), .da ((dL dI) s_.1.2.2)])] : M) ++ nest (dU dI) l_6 ps_l_6 s_.2.1) ++ nest dI l_7 ps_l_7 s_.2.2)) (src_LP (f := dI) (f2 := dI) (j := 5) (k := 7) (ev_methP (mc := (([(l_4, obj C_Handing dx_5 names_Handing [.rf l_6, .da ((dL (d3 dI dI dI)) c1.1), .da (dS c1.2.1), .da ((dL dI) c1.2.2)])] : M) ++ nest (dU dI) l_6 ps_l_6 c2)) (mc' := (([(l_4, obj C_Handing dx_5 names_Handing [.rf l_6, .da ((dL (d3 dI dI dI)) c1.1), .da (dS c1.2.1), .da ((dL dI) c1.2.2)])] : M) ++ nest (dU dI) l_6 ps_l_6 c2)) (fr := (([] : M) ++ nest dI l_7 ps_l_7 o13)) (m3 := ((([(l_4, obj C_Handing dx_5 names_Handing [.rf l_6, .da ((dL (d3 dI dI dI)) c1.1), .da (dS c1.2.1), .da ((dL dI) c1.2.2)])] : M) ++ nest (dU dI) l_6 ps_l_6 c2) ++ nest dI l_7 ps_l_7 o13)) 0 (ev_rf (i := 4) rfl) rfl (Nat.le_of_ble_eq_true rfl) nm_Handing_spots_in_turn ea_nil (permB (by intro g_; simp only [List.map_append, List.sum_append, List.map_cons, List.sum_cons, List.map_nil, List.sum_nil]; omega)) (permB (by intro g_; simp only [List.map_append, List.sum_append, List.map_cons, List.sum_cons, List.map_nil, List.sum_nil]; omega)) ⟨_, ⟨_, _, _, _, _, _, _, q16, rfl, rfl, rfl⟩, fun _ _ h => h⟩)) q49 (.cons .rfl (.cons .rfl (.cons .rfl (.cons .rfl (.cons .rfl (.cons .un (.cons .rfl (.cons .un (.cons .un Wks.nil))))))))) rfl (fun _ => True.intro) ?_ ?_
    · rintro lo1 ⟨c19, c20, c21⟩ ⟨v_row17, v_column18⟩ s_ hx1 h1 D1 he1 hn1 hct1
      show Wp _ _ _ [.da ((dL (dL (dU dI))) v_picture), .da ((dL (dU dI)) v_palette), .da ((dL (d3 dI dI dI)) v_shares), .da (dS v_way), .rf l_4, .da (dI v_row17), .rf l_7, .da (dI v_column18), .un] ((([(l_4, obj C_Handing dx_5 names_Handing [.rf l_6, .da ((dL (d3 dI dI dI)) c19.1), .da (dS c19.2.1), .da ((dL dI) c19.2.2)])] : M) ++ nest (dU dI) l_6 ps_l_6 c20) ++ nest dI l_7 ps_l_7 c21)
      obtain ⟨t34, q35, h1⟩ := bindS h1
      obtain ⟨t36, q37, h1⟩ := bindS h1
      refine wp_asg (i := 8) (ev_call (ea_cons (ev_var (i := 1) rfl) (ea_cons (ev_methP (mc := (([(l_4, obj C_Handing dx_5 names_Handing [.rf l_6, .da ((dL (d3 dI dI dI)) c19.1), .da (dS c19.2.1), .da ((dL dI) c19.2.2)])] : M) ++ nest (dU dI) l_6 ps_l_6 c20)) (mc' := (([(l_4, obj C_Handing dx_5 names_Handing [.rf l_6, .da ((dL (d3 dI dI dI)) c19.1), .da (dS c19.2.1), .da ((dL dI) c19.2.2)])] : M) ++ nest (dU dI) l_6 ps_l_6 c20)) (fr := (([] : M) ++ nest dI l_7 ps_l_7 c21)) (m3 := ((([(l_4, obj C_Handing dx_5 names_Handing [.rf l_6, .da ((dL (d3 dI dI dI)) c19.1), .da (dS c19.2.1), .da ((dL dI) c19.2.2)])] : M) ++ nest (dU dI) l_6 ps_l_6 c20) ++ nest dI l_7 ps_l_7 c21)) 0 (ev_rf (i := 4) rfl) rfl (Nat.le_of_ble_eq_true rfl) nm_Handing_wanted_at (ea_cons (ev_var (i := 5) rfl) (ea_cons (ev_var (i := 7) rfl) ea_nil)) (permB (by intro g_; simp only [List.map_append, List.sum_append, List.map_cons, List.sum_cons, List.map_nil, List.sum_nil]; omega)) (permB (by intro g_; simp only [List.map_append, List.sum_append, List.map_cons, List.sum_cons, List.map_nil, List.sum_nil]; omega)) ⟨_, ⟨_, _, _, _, _, _, _, _, _, q35, rfl, rfl, rfl⟩, fun _ _ h => h⟩) ea_nil)) ⟨_, ⟨_, _, _, q37, rfl, rfl, rfl⟩, fun _ _ h => h⟩) ?_
      show Wp _ _ _ [.da ((dL (dL (dU dI))) v_picture), .da ((dL (dU dI)) v_palette), .da ((dL (d3 dI dI dI)) v_shares), .da (dS v_way), .rf l_4, .da (dI v_row17), .rf l_7, .da (dI v_column18), .da (dI t36)] ((([(l_4, obj C_Handing dx_5 names_Handing [.rf l_6, .da ((dL (d3 dI dI dI)) c19.1), .da (dS c19.2.1), .da ((dL dI) c19.2.2)])] : M) ++ nest (dU dI) l_6 ps_l_6 c20) ++ nest dI l_7 ps_l_7 c21)
      obtain ⟨c38, q39, h1⟩ := bindS h1
      refine wp_nset (f := dI) (pre := (([(l_4, obj C_Handing dx_5 names_Handing [.rf l_6, .da ((dL (d3 dI dI dI)) c19.1), .da (dS c19.2.1), .da ((dL dI) c19.2.2)])] : M) ++ nest (dU dI) l_6 ps_l_6 c20)) (ev_var (i := 8) rfl) (ev_rf (i := 6) rfl) (ev_var (i := 5) rfl) (ev_var (i := 7) rfl) q39 ?_
      show Wp _ _ _ [.da ((dL (dL (dU dI))) v_picture), .da ((dL (dU dI)) v_palette), .da ((dL (d3 dI dI dI)) v_shares), .da (dS v_way), .rf l_4, .da (dI v_row17), .rf l_7, .da (dI v_column18), .da (dI t36)] ((([(l_4, obj C_Handing dx_5 names_Handing [.rf l_6, .da ((dL (d3 dI dI dI)) c19.1), .da (dS c19.2.1), .da ((dL dI) c19.2.2)])] : M) ++ nest (dU dI) l_6 ps_l_6 c20) ++ nest dI l_7 ps_l_7 c38)
      obtain ⟨t40, q41, h1⟩ := bindS h1
      obtain ⟨⟨t42, c43, c44⟩, q45, h1⟩ := bindS h1
      refine wp_expr (ev_methP (mc := (([(l_4, obj C_Handing dx_5 names_Handing [.rf l_6, .da ((dL (d3 dI dI dI)) c19.1), .da (dS c19.2.1), .da ((dL dI) c19.2.2)])] : M) ++ nest (dU dI) l_6 ps_l_6 c20)) (mc' := (([(l_4, obj C_Handing dx_5 names_Handing [.rf l_6, .da ((dL (d3 dI dI dI)) c43.1), .da (dS c43.2.1), .da ((dL dI) c43.2.2)])] : M) ++ nest (dU dI) l_6 ps_l_6 c44)) (fr := (([] : M) ++ nest dI l_7 ps_l_7 c38)) (m3 := ((([(l_4, obj C_Handing dx_5 names_Handing [.rf l_6, .da ((dL (d3 dI dI dI)) c43.1), .da (dS c43.2.1), .da ((dL dI) c43.2.2)])] : M) ++ nest (dU dI) l_6 ps_l_6 c44) ++ nest dI l_7 ps_l_7 c38)) 0 (ev_rf (i := 4) rfl) rfl (Nat.le_of_ble_eq_true rfl) nm_Handing_tell (ea_cons (ev_var (i := 5) rfl) (ea_cons (ev_var (i := 7) rfl) (ea_cons (ev_op (ev_var (i := 1) rfl) (ev_var (i := 8) rfl) (rr_ixL (f := (dU dI)) q41)) ea_nil))) (permB (by intro g_; simp only [List.map_append, List.sum_append, List.map_cons, List.sum_cons, List.map_nil, List.sum_nil]; omega)) (permB (by intro g_; simp only [List.map_append, List.sum_append, List.map_cons, List.sum_cons, List.map_nil, List.sum_nil]; omega)) ⟨_, ⟨_, _, _, _, _, _, _, _, _, _, _, _, q45, rfl, rfl, rfl⟩, fun _ _ h => h⟩) ?_
      show Wp _ _ _ [.da ((dL (dL (dU dI))) v_picture), .da ((dL (dU dI)) v_palette), .da ((dL (d3 dI dI dI)) v_shares), .da (dS v_way), .rf l_4, .da (dI v_row17), .rf l_7, .da (dI v_column18), .da (dI t36)] ((([(l_4, obj C_Handing dx_5 names_Handing [.rf l_6, .da ((dL (d3 dI dI dI)) c43.1), .da (dS c43.2.1), .da ((dL dI) c43.2.2)])] : M) ++ nest (dU dI) l_6 ps_l_6 c44) ++ nest dI l_7 ps_l_7 c38)
      cases h1
      exact wp_next fun σ H a => hn1 σ H (at_weak (.cons .rfl (.cons .rfl (.cons .rfl (.cons .rfl (.cons .rfl (.cons .un (.cons .rfl (.cons .un (.cons .un Wks.nil))))))))) a)
    · show Wp _ _ _ [.da ((dL (dL (dU dI))) v_picture), .da ((dL (dU dI)) v_palette), .da ((dL (d3 dI dI dI)) v_shares), .da (dS v_way), .rf l_4, .un, .rf l_7, .un, .un] ((([(l_4, obj C_Handing dx_5 names_Handing [.rf l_6, .da ((dL (d3 dI dI dI)) c46.1), .da (dS c46.2.1), .da ((dL dI) c46.2.2)])] : M) ++ nest (dU dI) l_6 ps_l_6 c47) ++ nest dI l_7 ps_l_7 c48)
      refine wp_frzN (f := dI) (i := 6) (pre := (([(l_4, obj C_Handing dx_5 names_Handing [.rf l_6, .da ((dL (d3 dI dI dI)) c46.1), .da (dS c46.2.1), .da ((dL dI) c46.2.2)])] : M) ++ nest (dU dI) l_6 ps_l_6 c47)) rfl nk_l_7 nks_l_7 ?_
      show Wp _ _ _ [.da ((dL (dL (dU dI))) v_picture), .da ((dL (dU dI)) v_palette), .da ((dL (d3 dI dI dI)) v_shares), .da (dS v_way), .rf l_4, .un, .da ((dL (dL dI)) c48), .un, .un] (([(l_4, obj C_Handing dx_5 names_Handing [.rf l_6, .da ((dL (d3 dI dI dI)) c46.1), .da (dS c46.2.1), .da ((dL dI) c46.2.2)])] : M) ++ nest (dU dI) l_6 ps_l_6 c47)
      have e0_ := Option.some.inj h0
      subst e0_
      exact wp_retS (tz := tNext) (show Ev _ _ _ _ (.da ((dP (dL (dL dI)) (dU dI)) (c48, c46.2.2))) _ from ev_tup (dl := [(dL (dL dI)) c48, (dU dI) c46.2.2]) (ea_cons (ev_var (i := 6) rfl) (ea_cons (ev_cb (ea_cons (ev_fld 0 3 (ev_rf (i := 4) rfl) rfl rfl pa_Handing_own_lost (Nat.le_of_ble_eq_true rfl) c_Handing na_Handing_own_lost) ea_nil) (rc_tupL (f := dI))) ea_nil)) (Nat.le_of_ble_eq_true rfl)) hfin ⟨rfl, rfl⟩ (List.nil_sublist _)
end K83
set_option maxHeartbeats 2000000
namespace K83
open PySem PySem.Spec PyProof.Rows L2 Evl FC
theorem ok_m_law_mix {P : Program} {w : World} {K : PySem.W.Frag} {mg : Str → Option Value} {base : Heap} {f : Addr} {fd : FuncData} (FF : Fun K "_law_mix" "_law_mix" sm_law_mix f fd)  : FnOk P w K mg base CX0 1 f fd ["cell", "k"] (spOf K (pf_m_law_mix)) := by
  refine ok_of (N := N_m_law_mix) FF sc_m_law_mix (fun as m R hG => ?_) (fun cdv A outer s H E hr => ?_)
  · obtain ⟨v_cell, v_k, r_, _, rfl, _⟩ := hG
    rfl
  · have nd : (N_m_law_mix : List Str).Nodup := sc_m_law_mix.nd
    refine ⟨_, (pss_cons (ps_set (i := 2) nd rfl (Or.inl rfl) (pe_op op_mod (pe_op op_mulA (pe_op op_add (pe_op op_add (pe_op op_mod (pv 0) pe_int) (pe_op op_mulA (pe_op op_mulA (pv 1) (pv 1)) pe_int)) pe_int) pe_int) pe_int))
      (pss_cons (ps_ret (pe_op op_mod (pe_op op_mulA (pv 2) (pv 2)) pe_int)) pss_nil)), ?_⟩
    rintro as m R ⟨v_cell, v_k, r_, h0, rfl, rfl, rfl⟩ F D rfl hk hfin hnx
    unfold m_law_mix at h0
    show Wp _ _ _ [.da (dI v_cell), .da (dI v_k), .un] []
    obtain ⟨t1, q2, h0⟩ := bindS h0
    obtain ⟨t3, q4, h0⟩ := bindS h0
    obtain ⟨t5, q6, h0⟩ := bindS h0
    obtain ⟨t7, q8, h0⟩ := bindS h0
    obtain ⟨t9, q10, h0⟩ := bindS h0
    refine wp_asg (i := 2) (ev_op (ev_op (ev_op (ev_op (ev_op (ev_var (i := 0) rfl) (ev_int (i := 2147483629)) (rr_mod q2)) (ev_op (ev_op (ev_var (i := 1) rfl) (ev_var (i := 1) rfl) (rr_mul q4)) (ev_int (i := 7919)) (rr_mul q6)) rr_i) (ev_int (i := 11)) rr_i) (ev_int (i := 48271)) (rr_mul q8)) (ev_int (i := 2147483647)) (rr_mod q10)) ?_
    show Wp _ _ _ [.da (dI v_cell), .da (dI v_k), .da (dI t9)] []
    obtain ⟨t11, q12, h0⟩ := bindS h0
    obtain ⟨t13, q14, h0⟩ := bindS h0
    have e0_ := Option.some.inj h0
    subst e0_
    exact wp_retS (ev_op (ev_op (ev_var (i := 2) rfl) (ev_var (i := 2) rfl) (rr_mul q12)) (ev_int (i := 1999999973)) (rr_mod q14)) hfin ⟨rfl, rfl⟩ (List.nil_sublist _)
end K83
set_option maxHeartbeats 2000000
namespace K83
open PySem PySem.Spec PyProof.Rows L2 Evl FC
theorem ok_m_law_left {P : Program} {w : World} {K : PySem.W.Frag} {mg : Str → Option Value} {base : Heap} {f : Addr} {fd : FuncData} (FF : Fun K "_law_left" "_law_left" sm_law_left f fd) (n_abs : mg "abs" = none) (n_int : mg "int" = none) (n_len : mg "len" = none) : FnOk P w K mg base CX0 1 f fd ["script", "k"] (spOf K (pf_m_law_left)) := by
  refine ok_of (N := N_m_law_left) FF sc_m_law_left (fun as m R hG => ?_) (fun cdv A outer s H E hr => ?_)
  · obtain ⟨l_script, v_script, v_k, r_, _, rfl, _⟩ := hG
    rfl
  · have nd : (N_m_law_left : List Str).Nodup := sc_m_law_left.nd
    refine ⟨_, (pss_cons (ps_set (i := 2) nd rfl (Or.inl rfl) (pe_ifExp (pt_cmpR op_lt (pv 1) (pe_callB (kCa (r := rLenA) (K := K) call_len_seq rfl) (by rfl) n_len (by decide +kernel) (pa_cons (pv 0) pa_nil)) (nomark _)) (pe_ix (kIx (r := rIxL) (K := K) ix_list rfl) (pv 0) (pv 1) (fun _ _ => rfl)) pe_int))
      (pss_cons (ps_ret (pe_lst (pa_cons (pe_op op_mulA (pe_callB call_abs (by rfl) n_abs (by decide +kernel) (pa_cons (pv 2) pa_nil)) (pe_callTy call_int1 (by rfl) n_int (by decide +kernel) (pa_cons (pe_cmpR op_ge (pe_callB call_abs (by rfl) n_abs (by decide +kernel) (pa_cons (pv 2) pa_nil)) (pe_op op_pow pe_int pe_int) (nomark _)) pa_nil))) (pa_cons (pe_op op_add (pv 2) (pe_op op_mulA pe_int (pv 1))) (pa_cons pe_int pa_nil))))) pss_nil)), ?_⟩
    rintro as m R ⟨l_script, v_script, v_k, r_, h0, rfl, rfl, rfl⟩ F D rfl hk hfin hnx
    unfold m_law_left at h0
    show Wp _ _ _ [.sl l_script v_script, .da (dI v_k), .un] []
    obtain ⟨t3, q4, h0⟩ := bindS h0
    refine wp_asg (i := 2) (ev_if (r := .da (dI t3)) (m' := []) (et_test (ev_op (ev_var (i := 1) rfl) (ev_cb (ea_cons (ev_sc (i := 0) rfl) ea_nil) rc_lenSc) (rr_b (f := fun i j => decide (i < j))))) (fun e => by have h_ := condT e q4; obtain ⟨t1, q2, h_⟩ := bindS h_; cases h_; exact (ev_op (ev_sc (i := 0) rfl) (ev_var (i := 1) rfl) (rr_ixSc q2))) (fun e => by have h_ := condF e q4; cases h_; exact (ev_int (i := 0)))) ?_
    show Wp _ _ _ [.sl l_script v_script, .da (dI v_k), .da (dI t3)] []
    obtain ⟨t5, q6, h0⟩ := bindS h0
    obtain ⟨t7, q8, h0⟩ := bindS h0
    have e0_ := Option.some.inj h0
    subst e0_
    exact wp_retNew (mo := []) (show EvN _ _ _ _ (.ls (List.map dI ([t5, (t3 + t7), (0 : Int)] : (List Int)))) _ from en_lst (dl := [dI t5, dI (t3 + t7), dI (0 : Int)]) (ea_cons (ev_op (ev_cb (ea_cons (ev_var (i := 2) rfl) ea_nil) rc_abs) (ev_cb (ea_cons (ev_op (ev_cb (ea_cons (ev_var (i := 2) rfl) ea_nil) rc_abs) (ev_op (ev_int (i := 10)) (ev_int (i := 18)) (rr_pow (k := 1000000000000000000) (by decide) (by decide))) (rr_b (f := fun i j => decide (j ≤ i)))) ea_nil) rc_intB) (rr_mul q6)) (ea_cons (ev_op (ev_var (i := 2) rfl) (ev_op (ev_int (i := 1000003)) (ev_var (i := 1) rfl) (rr_mul q8)) rr_i) (ea_cons (ev_int (i := 0)) ea_nil))) (Nat.le_of_ble_eq_true rfl)) hfin (fun p => ⟨p, rfl, rfl⟩) (List.nil_sublist _)
end K83
set_option maxHeartbeats 2000000
namespace K83
open PySem PySem.Spec PyProof.Rows L2 Evl FC
theorem ok_m_law_pick {P : Program} {w : World} {K : PySem.W.Frag} {mg : Str → Option Value} {base : Heap} {f : Addr} {fd : FuncData} (FF : Fun K "_law_pick" "_law_pick" sm_law_pick f fd) {f_m_law_mix : Addr} {fd_m_law_mix : FuncData} (G_m_law_mix : FnOk P w K mg base CX0 1 f_m_law_mix fd_m_law_mix ["cell", "k"] (spOf K (pf_m_law_mix))) (g_m_law_mix : mg "_law_mix" = some (.ref f_m_law_mix)) (k_m_law_mix : PySem.W.keepIn K (.ref f_m_law_mix) = true) (b_m_law_mix : Binds K fd_m_law_mix ["cell", "k"] []) : FnOk P w K mg base CX0 2 f fd ["left", "many"] (spOf K (pf_m_law_pick)) := by
  refine ok_of (N := N_m_law_pick) FF sc_m_law_pick (fun as m R hG => ?_) (fun cdv A outer s H E hr => ?_)
  · obtain ⟨l_left, v_left, v_many, r_, w_left, _, rfl, _⟩ := hG
    rfl
  · have nd : (N_m_law_pick : List Str).Nodup := sc_m_law_pick.nd
    refine ⟨_, (pss_cons (ps_asg (pe_op op_add (pe_ix (kIx (r := rIxL) (K := K) ix_list rfl) (pv 0) pe_int (fun _ _ => rfl)) pe_int) (pg_sub (pv 0) pe_int set_list))
      (pss_cons (ps_if (pt_cmpR op_gt (pe_ix (kIx (r := rIxL) (K := K) ix_list rfl) (pv 0) pe_int (fun _ _ => rfl)) pe_int (nomark _)) (pss_cons (ps_set (i := 2) nd rfl (Or.inl rfl) (pe_op op_mod (pe_ix (kIx (r := rIxL) (K := K) ix_list rfl) (pv 0) pe_int (fun _ _ => rfl)) (pv 1)))
      (pss_cons (ps_asg (pe_op op_divA (pe_ix (kIx (r := rIxL) (K := K) ix_list rfl) (pv 0) pe_int (fun _ _ => rfl)) (pv 1)) (pg_sub (pv 0) pe_int set_list))
      (pss_cons (ps_ret (pv 2)) pss_nil))) pss_nil)
      (pss_cons (ps_ret (pe_op op_mod (pe_op op_divA (pe_call G_m_law_mix (hr.mono (by decide)) (by rfl) g_m_law_mix k_m_law_mix b_m_law_mix .nil pass0 (pa_cons (pe_call G_m_law_mix (hr.mono (by decide)) (by rfl) g_m_law_mix k_m_law_mix b_m_law_mix .nil pass0 (pa_cons (pe_ix (kIx (r := rIxL) (K := K) ix_list rfl) (pv 0) pe_int (fun _ _ => rfl)) (pa_cons (pe_ix (kIx (r := rIxL) (K := K) ix_list rfl) (pv 0) pe_int (fun _ _ => rfl)) pa_nil))) (pa_cons (pe_op op_add (pe_ix (kIx (r := rIxL) (K := K) ix_list rfl) (pv 0) pe_int (fun _ _ => rfl)) pe_int) pa_nil))) pe_int) (pv 1))) pss_nil))), ?_⟩
    rintro as m R ⟨l_left, v_left, v_many, r_, w_left, h0, rfl, rfl, rfl⟩ F D rfl hk hfin hnx
    unfold m_law_pick at h0
    show Wp _ _ _ [.rf l_left, .da (dI v_many), .un] [(l_left, .ls (List.map dI v_left))]
    obtain ⟨t1, q2, h0⟩ := bindS h0
    obtain ⟨c3, q4, h0⟩ := bindS h0
    refine wp_setL (f := dI) 0 (ev_op (ev_op (ev_rf (i := 0) rfl) (ev_int (i := 2)) (rr_ixC (f := dI) 0 rfl q2)) (ev_int (i := 1)) rr_i) (ev_rf (i := 0) rfl) (ev_int (i := 2)) rfl q4 ?_
    show Wp _ _ _ [.rf l_left, .da (dI v_many), .un] [(l_left, .ls (List.map dI c3))]
    obtain ⟨t5, q6, h0⟩ := bindS h0
    refine wp_if (et_test (ev_op (ev_op (ev_rf (i := 0) rfl) (ev_int (i := 0)) (rr_ixC (f := dI) 0 rfl q6)) (ev_int (i := 0)) (rr_b (f := fun i j => decide (j < i))))) (fun hc => ?_) (fun hc => ?_)
    · have h0 := condT hc h0
      obtain ⟨t7, q8, h0⟩ := bindS h0
      obtain ⟨t9, q10, h0⟩ := bindS h0
      refine wp_asg (i := 2) (ev_op (ev_op (ev_rf (i := 0) rfl) (ev_int (i := 0)) (rr_ixC (f := dI) 0 rfl q8)) (ev_var (i := 1) rfl) (rr_mod q10)) ?_
      show Wp _ _ _ [.rf l_left, .da (dI v_many), .da (dI t9)] [(l_left, .ls (List.map dI c3))]
      obtain ⟨t11, q12, h0⟩ := bindS h0
      obtain ⟨t13, q14, h0⟩ := bindS h0
      obtain ⟨c15, q16, h0⟩ := bindS h0
      refine wp_setL (f := dI) 0 (ev_op (ev_op (ev_rf (i := 0) rfl) (ev_int (i := 0)) (rr_ixC (f := dI) 0 rfl q12)) (ev_var (i := 1) rfl) (rr_div q14)) (ev_rf (i := 0) rfl) (ev_int (i := 0)) rfl q16 ?_
      show Wp _ _ _ [.rf l_left, .da (dI v_many), .da (dI t9)] [(l_left, .ls (List.map dI c15))]
      have z0_ := Option.some.inj h0
      obtain ⟨e0_, e1_⟩ := Prod.mk.inj z0_
      subst e0_
      subst e1_
      exact wp_retS (ev_var (i := 2) rfl) hfin ⟨rfl, rfl⟩ (List.Sublist.cons₂ _ (List.nil_sublist _))
    · have h0 := condF hc h0
      refine wp_next ?_
      obtain ⟨t17, q18, h0⟩ := bindS h0
      obtain ⟨t19, q20, h0⟩ := bindS h0
      obtain ⟨t21, q22, h0⟩ := bindS h0
      obtain ⟨t23, q24, h0⟩ := bindS h0
      obtain ⟨t25, q26, h0⟩ := bindS h0
      obtain ⟨t27, q28, h0⟩ := bindS h0
      obtain ⟨t29, q30, h0⟩ := bindS h0
      have z0_ := Option.some.inj h0
      obtain ⟨e0_, e1_⟩ := Prod.mk.inj z0_
      subst e0_
      subst e1_
      exact wp_retS (ev_op (ev_op (ev_call (ea_cons (ev_call (ea_cons (ev_op (ev_rf (i := 0) rfl) (ev_int (i := 1)) (rr_ixC (f := dI) 0 rfl q18)) (ea_cons (ev_op (ev_rf (i := 0) rfl) (ev_int (i := 2)) (rr_ixC (f := dI) 0 rfl q20)) ea_nil)) ⟨_, ⟨_, _, _, q22, rfl, rfl, rfl⟩, fun _ _ h => h⟩) (ea_cons (ev_op (ev_op (ev_rf (i := 0) rfl) (ev_int (i := 2)) (rr_ixC (f := dI) 0 rfl q24)) (ev_int (i := 64)) rr_i) ea_nil)) ⟨_, ⟨_, _, _, q26, rfl, rfl, rfl⟩, fun _ _ h => h⟩) (ev_int (i := 64)) (rr_div q28)) (ev_var (i := 1) rfl) (rr_mod q30)) hfin ⟨rfl, rfl⟩ (List.Sublist.cons₂ _ (List.nil_sublist _))
end K83
set_option maxHeartbeats 2000000
namespace K83
open PySem PySem.Spec PyProof.Rows L2 Evl FC
theorem ok_m_law_kind {P : Program} {w : World} {K : PySem.W.Frag} {mg : Str → Option Value} {base : Heap} {f : Addr} {fd : FuncData} (FF : Fun K "_law_kind" "_law_kind" sm_law_kind f fd) {f_m_law_pick : Addr} {fd_m_law_pick : FuncData} (G_m_law_pick : FnOk P w K mg base CX0 2 f_m_law_pick fd_m_law_pick ["left", "many"] (spOf K (pf_m_law_pick))) (g_m_law_pick : mg "_law_pick" = some (.ref f_m_law_pick)) (k_m_law_pick : PySem.W.keepIn K (.ref f_m_law_pick) = true) (b_m_law_pick : Binds K fd_m_law_pick ["left", "many"] []) : FnOk P w K mg base CX0 3 f fd ["left"] (spOf K (pf_m_law_kind)) := by
  refine ok_of (N := N_m_law_kind) FF sc_m_law_kind (fun as m R hG => ?_) (fun cdv A outer s H E hr => ?_)
  · obtain ⟨l_left, v_left, r_, w_left, _, rfl, _⟩ := hG
    rfl
  · have nd : (N_m_law_kind : List Str).Nodup := sc_m_law_kind.nd
    refine ⟨_, (pss_cons (ps_ret (pe_tup (pa_cons (pe_ix (kIx (r := rIxL) (K := K) ix_list rfl) (pe_lst (pa_cons pe_int (pa_cons pe_int (pa_cons pe_int (pa_cons pe_int (pa_cons pe_int (pa_cons pe_int (pa_cons pe_int (pa_cons pe_int pa_nil))))))))) (pe_call G_m_law_pick (hr.mono (by decide)) (by rfl) g_m_law_pick k_m_law_pick b_m_law_pick .nil pass0 (pa_cons (pv 0) (pa_cons pe_int pa_nil))) (fun _ _ => rfl)) (pa_cons (pe_ix (kIx (r := rIxL) (K := K) ix_list rfl) (pe_lst (pa_cons pe_int (pa_cons pe_int (pa_cons pe_int (pa_cons pe_int (pa_cons pe_int (pa_cons pe_int pa_nil))))))) (pe_call G_m_law_pick (hr.mono (by decide)) (by rfl) g_m_law_pick k_m_law_pick b_m_law_pick .nil pass0 (pa_cons (pv 0) (pa_cons pe_int pa_nil))) (fun _ _ => rfl)) pa_nil)))) pss_nil), ?_⟩
    rintro as m R ⟨l_left, v_left, r_, w_left, h0, rfl, rfl, rfl⟩ F D rfl hk hfin hnx
    unfold m_law_kind at h0
    show Wp _ _ _ [.rf l_left] [(l_left, .ls (List.map dI v_left))]
    obtain ⟨⟨t1, c2⟩, q3, h0⟩ := bindS h0
    obtain ⟨t4, q5, h0⟩ := bindS h0
    obtain ⟨⟨t6, c7⟩, q8, h0⟩ := bindS h0
    obtain ⟨t9, q10, h0⟩ := bindS h0
    have z0_ := Option.some.inj h0
    obtain ⟨e0_, e1_⟩ := Prod.mk.inj z0_
    subst e0_
    subst e1_
    exact wp_retS (show Ev _ _ _ _ (.da ((dP dI dI) (t4, t9))) _ from ev_tup (dl := [dI t4, dI t9]) (ea_cons (ev_op (show Ev _ _ _ _ (.da ((dL dI) ([(1 : Int), (2 : Int), (3 : Int), (3 : Int), (3 : Int), (4 : Int), (5 : Int), (2 : Int)] : (List Int)))) _ from ev_lst (dl := [dI (1 : Int), dI (2 : Int), dI (3 : Int), dI (3 : Int), dI (3 : Int), dI (4 : Int), dI (5 : Int), dI (2 : Int)]) (ea_cons (ev_int (i := 1)) (ea_cons (ev_int (i := 2)) (ea_cons (ev_int (i := 3)) (ea_cons (ev_int (i := 3)) (ea_cons (ev_int (i := 3)) (ea_cons (ev_int (i := 4)) (ea_cons (ev_int (i := 5)) (ea_cons (ev_int (i := 2)) ea_nil)))))))) (Nat.le_of_ble_eq_true rfl)) (ev_call1 0 (ea_cons (ev_rf (i := 0) rfl) (ea_cons (ev_int (i := 8)) ea_nil)) rfl ⟨_, ⟨_, _, _, _, _, q3, rfl, rfl, rfl⟩, fun _ _ h => h⟩) (rr_ixL (f := dI) q5)) (ea_cons (ev_op (show Ev _ _ _ _ (.da ((dL dI) ([(3 : Int), (6 : Int), (20 : Int), (256 : Int), (1000 : Int), (10 : Int)] : (List Int)))) _ from ev_lst (dl := [dI (3 : Int), dI (6 : Int), dI (20 : Int), dI (256 : Int), dI (1000 : Int), dI (10 : Int)]) (ea_cons (ev_int (i := 3)) (ea_cons (ev_int (i := 6)) (ea_cons (ev_int (i := 20)) (ea_cons (ev_int (i := 256)) (ea_cons (ev_int (i := 1000)) (ea_cons (ev_int (i := 10)) ea_nil)))))) (Nat.le_of_ble_eq_true rfl)) (ev_call1 0 (ea_cons (ev_rf (i := 0) rfl) (ea_cons (ev_int (i := 6)) ea_nil)) rfl ⟨_, ⟨_, _, _, _, _, q8, rfl, rfl, rfl⟩, fun _ _ h => h⟩) (rr_ixL (f := dI) q10)) ea_nil)) (Nat.le_of_ble_eq_true rfl)) hfin ⟨rfl, rfl⟩ (List.Sublist.cons₂ _ (List.nil_sublist _))
end K83
set_option maxHeartbeats 2000000
namespace K83
open PySem PySem.Spec PyProof.Rows L2 Evl FC
theorem ok_m_law_colour {P : Program} {w : World} {K : PySem.W.Frag} {mg : Str → Option Value} {base : Heap} {f : Addr} {fd : FuncData} (FF : Fun K "_law_colour" "_law_colour" sm_law_colour f fd) {f_m_law_pick : Addr} {fd_m_law_pick : FuncData} (G_m_law_pick : FnOk P w K mg base CX0 2 f_m_law_pick fd_m_law_pick ["left", "many"] (spOf K (pf_m_law_pick))) (g_m_law_pick : mg "_law_pick" = some (.ref f_m_law_pick)) (k_m_law_pick : PySem.W.keepIn K (.ref f_m_law_pick) = true) (b_m_law_pick : Binds K fd_m_law_pick ["left", "many"] []) (n_int : mg "int" = none) (n_range : mg "range" = none) (n_tuple : mg "tuple" = none) : FnOk P w K mg base CX0 3 f fd ["left", "kind"] (spOf K (pf_m_law_colour)) := by
  refine ok_of (N := N_m_law_colour) FF sc_m_law_colour (fun as m R hG => ?_) (fun cdv A outer s H E hr => ?_)
  · obtain ⟨l_left, v_left, v_kind, r_, w_left, _, rfl, _⟩ := hG
    rfl
  · have nd : (N_m_law_colour : List Str).Nodup := sc_m_law_colour.nd
    refine ⟨_, (pss_cons (ps_asg (pv 1) (pg_tup rfl (pgs_cons (pg_name (i := 2) nd rfl (Or.inl rfl)) (pgs_cons (pg_name (i := 3) nd rfl (Or.inr rfl)) pgs_nil))))
      (pss_cons (ps_ret (pe_callTy (kCa (r := rTupOf) (K := K) call_tuple_of rfl) (by rfl) n_tuple (by decide +kernel) (pa_cons (pe_lc (own := [("place", 4)]) (g := gName 4) (tt := tYes) rfl nd (pi_range1 (by rfl) n_range (pa_cons (pv 2) pa_nil)) (blkOk_by (own := [("place", 4)]) (N := N_m_law_colour) (sc := (defScope sm_law_colour)) (by decide +kernel)) (fun _ _ _ _ _ => (pg_name (i := 4) nd rfl (by first | exact Or.inl rfl | exact Or.inr rfl))) (fun _ _ _ _ _ => pts_nil) (fun _ _ _ _ _ => (pe_ix (kIx (r := rIxL) (K := K) ix_list rfl) (pe_lst (pa_cons (pe_call G_m_law_pick (hr.mono (by decide)) (by rfl) g_m_law_pick k_m_law_pick b_m_law_pick .nil pass0 (pa_cons (pv 0) (pa_cons (pv 3) pa_nil))) (pa_cons pe_int pa_nil))) (pe_callTy call_int1 (by rfl) n_int (by decide +kernel) (pa_cons (pe_cmpR op_eq (pe_call G_m_law_pick (hr.mono (by decide)) (by rfl) g_m_law_pick k_m_law_pick b_m_law_pick .nil pass0 (pa_cons (pv 0) (pa_cons pe_int pa_nil))) pe_int (nomark _)) pa_nil)) (fun _ _ => rfl)))) pa_nil))) pss_nil)), ?_⟩
    rintro as m R ⟨l_left, v_left, v_kind, r_, w_left, h0, rfl, rfl, rfl⟩ F D rfl hk hfin hnx
    unfold m_law_colour at h0
    show Wp _ _ _ [.rf l_left, .da ((dP dI dI) v_kind), .un, .un, .un] [(l_left, .ls (List.map dI v_left))]
    refine wp_unp2 (f := dI) (g := dI) (i := 2) (j := 3) (ev_var (i := 1) rfl) ?_
    show Wp _ _ _ [.rf l_left, .da ((dP dI dI) v_kind), .da (dI (v_kind).1), .da (dI (v_kind).2), .un] [(l_left, .ls (List.map dI v_left))]
    obtain ⟨rg1, q2, h0⟩ := bindS h0
    obtain ⟨u12, q13, h0⟩ := bindS h0
    obtain ⟨⟨o15, c14⟩, q25, h0⟩ := bindS h0
    have z0_ := Option.some.inj h0
    obtain ⟨e0_, e1_⟩ := Prod.mk.inj z0_
    subst e0_
    subst e1_
    exact wp_retS (ev_cb (ea_cons (lc_end (lc_mapS (f2 := dI) (fun (s_ : (List Int)) => [(l_left, .ls (List.map dI s_))]) (src_R1 (j := 4) (ea_cons (ev_var (i := 2) rfl) ea_nil) q2) rfl (by decide) (fun _ => (fun _ => True.intro)) q13 q25 (by rintro s16 v_place3 y_ s_ hx_ h_; obtain ⟨⟨t17, c18⟩, q19, h_⟩ := bindS h_; obtain ⟨⟨t20, c21⟩, q22, h_⟩ := bindS h_; obtain ⟨t23, q24, h_⟩ := bindS h_; cases h_; exact (ev_op (show Ev _ _ _ _ (.da ((dL dI) ([t17, (999 : Int)] : (List Int)))) _ from ev_lst (dl := [dI t17, dI (999 : Int)]) (ea_cons (ev_call1 0 (ea_cons (ev_rf (i := 0) rfl) (ea_cons (ev_var (i := 3) rfl) ea_nil)) rfl ⟨_, ⟨_, _, _, _, _, q19, rfl, rfl, rfl⟩, fun _ _ h => h⟩) (ea_cons (ev_int (i := 999)) ea_nil)) (Nat.le_of_ble_eq_true rfl)) (ev_cb (ea_cons (ev_op (ev_call1 0 (ea_cons (ev_rf (i := 0) rfl) (ea_cons (ev_int (i := 8)) ea_nil)) rfl ⟨_, ⟨_, _, _, _, _, q22, rfl, rfl, rfl⟩, fun _ _ h => h⟩) (ev_int (i := 0)) rr_eqI) ea_nil) rc_intB) (rr_ixL (f := dI) q24))))) ea_nil) (rc_tupL (f := dI))) hfin ⟨rfl, rfl⟩ (List.Sublist.cons₂ _ (List.nil_sublist _))
end K83
set_option maxHeartbeats 2000000
namespace K83
open PySem PySem.Spec PyProof.Rows L2 Evl FC
theorem ok_m_law_palette {P : Program} {w : World} {K : PySem.W.Frag} {mg : Str → Option Value} {base : Heap} {f : Addr} {fd : FuncData} (FF : Fun K "_law_palette" "_law_palette" sm_law_palette f fd) {f_m_law_colour : Addr} {fd_m_law_colour : FuncData} (G_m_law_colour : FnOk P w K mg base CX0 3 f_m_law_colour fd_m_law_colour ["left", "kind"] (spOf K (pf_m_law_colour))) (g_m_law_colour : mg "_law_colour" = some (.ref f_m_law_colour)) (k_m_law_colour : PySem.W.keepIn K (.ref f_m_law_colour) = true) (b_m_law_colour : Binds K fd_m_law_colour ["left", "kind"] []) {f_m_law_pick : Addr} {fd_m_law_pick : FuncData} (G_m_law_pick : FnOk P w K mg base CX0 2 f_m_law_pick fd_m_law_pick ["left", "many"] (spOf K (pf_m_law_pick))) (g_m_law_pick : mg "_law_pick" = some (.ref f_m_law_pick)) (k_m_law_pick : PySem.W.keepIn K (.ref f_m_law_pick) = true) (b_m_law_pick : Binds K fd_m_law_pick ["left", "many"] []) (n_len : mg "len" = none) (n_range : mg "range" = none) : FnOk P w K mg base CX0 4 f fd ["left", "kind"] (spOf K (pf_m_law_palette)) := by
  refine ok_of (N := N_m_law_palette) FF sc_m_law_palette (fun as m R hG => ?_) (fun cdv A outer s H E hr => ?_)
  · obtain ⟨l_left, v_left, v_kind, r_, w_left, _, rfl, _⟩ := hG
    rfl
  · have nd : (N_m_law_palette : List Str).Nodup := sc_m_law_palette.nd
    refine ⟨_, (pss_cons (ps_set (i := 2) nd rfl (Or.inl rfl) (pe_ix (kIx (r := rIxL) (K := K) ix_list rfl) (pe_lst (pa_cons pe_int (pa_cons pe_int (pa_cons pe_int (pa_cons pe_int (pa_cons pe_int (pa_cons pe_int (pa_cons pe_int (pa_cons (pe_op op_add pe_int (pe_call G_m_law_pick (hr.mono (by decide)) (by rfl) g_m_law_pick k_m_law_pick b_m_law_pick .nil pass0 (pa_cons (pv 0) (pa_cons pe_int pa_nil)))) pa_nil))))))))) (pe_call G_m_law_pick (hr.mono (by decide)) (by rfl) g_m_law_pick k_m_law_pick b_m_law_pick .nil pass0 (pa_cons (pv 0) (pa_cons pe_int pa_nil))) (fun _ _ => rfl)))
      (pss_cons (ps_set (i := 3) nd rfl (Or.inl rfl) (pe_lst pa_nil))
      (pss_cons (ps_for PassesOwn.never rfl (pi_range1 (by rfl) n_range (pa_cons (pv 2) pa_nil)) (pg_name (i := 4) nd rfl (by first | exact Or.inl rfl | exact Or.inr rfl))
      (pss_cons (ps_set (i := 5) nd rfl (Or.inl rfl) (pe_call G_m_law_colour (hr.mono (by decide)) (by rfl) g_m_law_colour k_m_law_colour b_m_law_colour .nil pass0 (pa_cons (pv 0) (pa_cons (pv 1) pa_nil))))
      (Evl.pss_cut (ps_if (PW.pt (pw_and (pt_cmpR (kOp (r := rNeP) (K := K) (op_neP hr.units) rfl) (pv 3) (pe_lst pa_nil) (nomark _)) (pw_and1 (pt_cmpR op_eq (pe_call G_m_law_pick (hr.mono (by decide)) (by rfl) g_m_law_pick k_m_law_pick b_m_law_pick .nil pass0 (pa_cons (pv 0) (pa_cons pe_int pa_nil))) pe_int (nomark _))))) (pss_cons (ps_set (i := 5) nd rfl (Or.inl rfl) (pe_ix (kIx (r := rIxL) (K := K) ix_list rfl) (pv 3) (pe_call G_m_law_pick (hr.mono (by decide)) (by rfl) g_m_law_pick k_m_law_pick b_m_law_pick .nil pass0 (pa_cons (pv 0) (pa_cons (pe_callB (kCa (r := rLenA) (K := K) call_len_seq rfl) (by rfl) n_len (by decide +kernel) (pa_cons (pv 3) pa_nil)) pa_nil))) (fun _ _ => rfl)))
      pss_nil) pss_nil)
      (pss_cons (ps_expr (pe_bm PySem.F.plainAttrs_list PySem.F.slot_list_append PySem.F.type_list_append mt_append (pv 3) (pa_cons (pv 5) pa_nil)))
      pss_nil))))
      (pss_cons (ps_ret (pv 3)) pss_nil)))), ?_⟩
    rintro as m R ⟨l_left, v_left, v_kind, r_, w_left, h0, rfl, rfl, rfl⟩ F D rfl hk hfin hnx
    unfold m_law_palette at h0
    show Wp _ _ _ [.rf l_left, .da ((dP dI dI) v_kind), .un, .un, .un, .un] [(l_left, .ls (List.map dI v_left))]
    obtain ⟨⟨t1, c2⟩, q3, h0⟩ := bindS h0
    obtain ⟨⟨t4, c5⟩, q6, h0⟩ := bindS h0
    obtain ⟨t7, q8, h0⟩ := bindS h0
    refine wp_asg (i := 2) (ev_op (show Ev _ _ _ _ (.da ((dL dI) ([(1 : Int), (2 : Int), (3 : Int), (4 : Int), (5 : Int), (7 : Int), (9 : Int), ((10 : Int) + t1)] : (List Int)))) _ from ev_lst (dl := [dI (1 : Int), dI (2 : Int), dI (3 : Int), dI (4 : Int), dI (5 : Int), dI (7 : Int), dI (9 : Int), dI ((10 : Int) + t1)]) (ea_cons (ev_int (i := 1)) (ea_cons (ev_int (i := 2)) (ea_cons (ev_int (i := 3)) (ea_cons (ev_int (i := 4)) (ea_cons (ev_int (i := 5)) (ea_cons (ev_int (i := 7)) (ea_cons (ev_int (i := 9)) (ea_cons (ev_op (ev_int (i := 10)) (ev_call1 0 (ea_cons (ev_rf (i := 0) rfl) (ea_cons (ev_int (i := 31)) ea_nil)) rfl ⟨_, ⟨_, _, _, _, _, q3, rfl, rfl, rfl⟩, fun _ _ h => h⟩) rr_i) ea_nil)))))))) (Nat.le_of_ble_eq_true rfl)) (ev_call1 0 (ea_cons (ev_rf (i := 0) rfl) (ea_cons (ev_int (i := 8)) ea_nil)) rfl ⟨_, ⟨_, _, _, _, _, q6, rfl, rfl, rfl⟩, fun _ _ h => h⟩) (rr_ixL (f := dI) q8)) ?_
    show Wp _ _ _ [.rf l_left, .da ((dP dI dI) v_kind), .da (dI t7), .un, .un, .un] [(l_left, .ls (List.map dI c5))]
    refine wp_asgN (i := 3) (show EvN _ _ _ _ (.ls (List.map (dU dI) ([] : (List (List Int))))) _ from en_lst (dl := []) ea_nil (Nat.le_of_ble_eq_true rfl)) (fun l_9 nk_l_9 => ?_) rfl
    show Wp _ _ _ [.rf l_left, .da ((dP dI dI) v_kind), .da (dI t7), .rf l_9, .un, .un] [(l_left, .ls (List.map dI c5)), (l_9, .ls (List.map (dU dI) ([] : (List (List Int)))))]
    obtain ⟨rg10, q11, h0⟩ := bindS h0
    obtain ⟨⟨c63, c64⟩, q65, h0⟩ := bindS h0
    refine wp_forF (fun (s_ : (List Int) × (List (List Int))) => [.rf l_left, .da ((dP dI dI) v_kind), .da (dI t7), .rf l_9, .un, .un]) (fun (s_ : (List Int) × (List (List Int))) => [(l_left, .ls (List.map dI s_.1)), (l_9, .ls (List.map (dU dI) s_.2))]) (src_R1 (j := 4) (ea_cons (ev_var (i := 2) rfl) ea_nil) q11) q65 (.cons .rfl (.cons .rfl (.cons .rfl (.cons .rfl (.cons .un (.cons .un Wks.nil)))))) rfl (fun _ => True.intro) ?_ ?_
    · rintro lo1 ⟨c13, c14⟩ v_k12 s_ hx1 h1 D1 he1 hn1 hct1
      show Wp _ _ _ [.rf l_left, .da ((dP dI dI) v_kind), .da (dI t7), .rf l_9, .da (dI v_k12), .un] [(l_left, .ls (List.map dI c13)), (l_9, .ls (List.map (dU dI) c14))]
      obtain ⟨⟨t39, c40⟩, q41, h1⟩ := bindS h1
      refine wp_asg (i := 5) (ev_call1 0 (ea_cons (ev_rf (i := 0) rfl) (ea_cons (ev_var (i := 1) rfl) ea_nil)) rfl ⟨_, ⟨_, _, _, _, _, q41, rfl, rfl, rfl⟩, fun _ _ h => h⟩) ?_
      show Wp _ _ _ [.rf l_left, .da ((dP dI dI) v_kind), .da (dI t7), .rf l_9, .da (dI v_k12), .da ((dU dI) t39)] [(l_left, .ls (List.map dI c40)), (l_9, .ls (List.map (dU dI) c14))]
      obtain ⟨⟨b45, c46⟩, q47, h1⟩ := bindS h1
      obtain ⟨⟨v_colour53, c54⟩, q60, h1⟩ := bindS h1
      refine wp_cutIf (ds' := [.rf l_left, .da ((dP dI dI) v_kind), .da (dI t7), .rf l_9, .da (dI v_k12), .da ((dU dI) v_colour53)]) (m' := [(l_left, .ls (List.map dI c54)), (l_9, .ls (List.map (dU dI) c14))]) ?_ (et_and (k2 := b45) (m' := [(l_left, .ls (List.map dI c46)), (l_9, .ls (List.map (dU dI) c14))]) (et_test (ev_op (ev_rf (i := 3) rfl) (show Ev _ _ _ _ (.da ((dL (dU dI)) ([] : (List (List Int))))) _ from ev_lst (dl := []) ea_nil (Nat.le_of_ble_eq_true rfl)) (rr_neC (f := (dU dI)) (by decide) 1 rfl))) (fun e => by have h_ := condT e q47; obtain ⟨⟨t42, c43⟩, q44, h_⟩ := bindS h_; cases h_; exact (et_test (ev_op (ev_call1 0 (ea_cons (ev_rf (i := 0) rfl) (ea_cons (ev_int (i := 6)) ea_nil)) rfl ⟨_, ⟨_, _, _, _, _, q44, rfl, rfl, rfl⟩, fun _ _ h => h⟩) (ev_int (i := 0)) rr_eqI))) (fun e => by have h_ := condF e q47; cases h_; exact ⟨rfl, rfl⟩)) (fun hc => ?_) (fun hc => ?_)
      · obtain ⟨u61, q62, h1⟩ := bindS h1
        refine wp_expr (ev_bm (ev_rf (i := 3) rfl) (j := 1) rfl (ea_cons (ev_var (i := 5) rfl) ea_nil) (rm_app (f := (dU dI)) 1 rfl q62)) ?_
        show Wp _ _ _ [.rf l_left, .da ((dP dI dI) v_kind), .da (dI t7), .rf l_9, .da (dI v_k12), .da ((dU dI) v_colour53)] [(l_left, .ls (List.map dI c54)), (l_9, .ls (List.map (dU dI) (c14 ++ [v_colour53])))]
        cases h1
        exact wp_next fun σ H a => hn1 σ H (at_weak (.cons .rfl (.cons .rfl (.cons .rfl (.cons .rfl (.cons .un (.cons .un Wks.nil)))))) a)
      · have h102 := condT hc q60
        obtain ⟨⟨t55, c56⟩, q57, h102⟩ := bindS h102
        obtain ⟨t58, q59, h102⟩ := bindS h102
        refine wp_asg (i := 5) (ev_op (ev_rf (i := 3) rfl) (ev_call1 0 (ea_cons (ev_rf (i := 0) rfl) (ea_cons (ev_cb (ea_cons (ev_rf (i := 3) rfl) ea_nil) (rc_lenC (f := (dU dI)) 1 rfl)) ea_nil)) rfl ⟨_, ⟨_, _, _, _, _, q57, rfl, rfl, rfl⟩, fun _ _ h => h⟩) (rr_ixC (f := (dU dI)) 1 rfl q59)) ?_
        show Wp _ _ _ [.rf l_left, .da ((dP dI dI) v_kind), .da (dI t7), .rf l_9, .da (dI v_k12), .da ((dU dI) t58)] [(l_left, .ls (List.map dI c56)), (l_9, .ls (List.map (dU dI) c14))]
        cases h102
        exact wp_nextW (.cons .rfl (.cons .rfl (.cons .rfl (.cons .rfl (.cons .rfl (.cons .rfl Wks.nil)))))) rfl
      · have h102 := condF hc q60
        cases h102
        exact wp_nextW (.cons .rfl (.cons .rfl (.cons .rfl (.cons .rfl (.cons .rfl (.cons .rfl Wks.nil)))))) rfl
    · show Wp _ _ _ [.rf l_left, .da ((dP dI dI) v_kind), .da (dI t7), .rf l_9, .un, .un] [(l_left, .ls (List.map dI c63)), (l_9, .ls (List.map (dU dI) c64))]
      refine wp_frz (i := 3) (j := 1) (l := l_9) rfl rfl nk_l_9 ?_
      show Wp _ _ _ [.rf l_left, .da ((dP dI dI) v_kind), .da (dI t7), .da ((dL (dU dI)) c64), .un, .un] [(l_left, .ls (List.map dI c63))]
      have z0_ := Option.some.inj h0
      obtain ⟨e0_, e1_⟩ := Prod.mk.inj z0_
      subst e0_
      subst e1_
      exact wp_retS (ev_var (i := 3) rfl) hfin ⟨rfl, rfl⟩ (List.Sublist.cons₂ _ (List.nil_sublist _))
end K83
set_option maxHeartbeats 2000000
namespace K83
open PySem PySem.Spec PyProof.Rows L2 Evl FC
theorem ok_m_law_picture {P : Program} {w : World} {K : PySem.W.Frag} {mg : Str → Option Value} {base : Heap} {f : Addr} {fd : FuncData} (FF : Fun K "_law_picture" "_law_picture" sm_law_picture f fd) {f_m_law_colour : Addr} {fd_m_law_colour : FuncData} (G_m_law_colour : FnOk P w K mg base CX0 3 f_m_law_colour fd_m_law_colour ["left", "kind"] (spOf K (pf_m_law_colour))) (g_m_law_colour : mg "_law_colour" = some (.ref f_m_law_colour)) (k_m_law_colour : PySem.W.keepIn K (.ref f_m_law_colour) = true) (b_m_law_colour : Binds K fd_m_law_colour ["left", "kind"] []) {f_m_law_pick : Addr} {fd_m_law_pick : FuncData} (G_m_law_pick : FnOk P w K mg base CX0 2 f_m_law_pick fd_m_law_pick ["left", "many"] (spOf K (pf_m_law_pick))) (g_m_law_pick : mg "_law_pick" = some (.ref f_m_law_pick)) (k_m_law_pick : PySem.W.keepIn K (.ref f_m_law_pick) = true) (b_m_law_pick : Binds K fd_m_law_pick ["left", "many"] []) (n_int : mg "int" = none) (n_len : mg "len" = none) (n_range : mg "range" = none) : FnOk P w K mg base CX0 4 f fd ["left", "kind"] (spOf K (pf_m_law_picture)) := by
  refine ok_of (N := N_m_law_picture) FF sc_m_law_picture (fun as m R hG => ?_) (fun cdv A outer s H E hr => ?_)
  · obtain ⟨l_left, v_left, v_kind, r_, w_left, _, rfl, _⟩ := hG
    rfl
  · have nd : (N_m_law_picture : List Str).Nodup := sc_m_law_picture.nd
    refine ⟨_, (pss_cons (ps_asg (pe_lc (own := [("side", 10)]) (g := gName 10) (tt := tYes) rfl nd (pi_range1 (by rfl) n_range (pa_cons pe_int pa_nil)) (blkOk_by (own := [("side", 10)]) (N := N_m_law_picture) (sc := (defScope sm_law_picture)) (by decide +kernel)) (fun _ _ _ _ _ => (pg_name (i := 10) nd rfl (by first | exact Or.inl rfl | exact Or.inr rfl))) (fun _ _ _ _ _ => pts_nil) (fun _ _ _ _ _ => (pe_ix (kIx (r := rIxL) (K := K) ix_list rfl) (pe_lst (pa_cons (pe_op op_add pe_int (pe_call G_m_law_pick (hr.mono (by decide)) (by rfl) g_m_law_pick k_m_law_pick b_m_law_pick .nil pass0 (pa_cons (pv 0) (pa_cons pe_int pa_nil)))) (pa_cons (pe_op op_add pe_int (pe_call G_m_law_pick (hr.mono (by decide)) (by rfl) g_m_law_pick k_m_law_pick b_m_law_pick .nil pass0 (pa_cons (pv 0) (pa_cons pe_int pa_nil)))) pa_nil))) (pe_callTy call_int1 (by rfl) n_int (by decide +kernel) (pa_cons (pe_cmpR op_eq (pe_call G_m_law_pick (hr.mono (by decide)) (by rfl) g_m_law_pick k_m_law_pick b_m_law_pick .nil pass0 (pa_cons (pv 0) (pa_cons pe_int pa_nil))) pe_int (nomark _)) pa_nil)) (fun _ _ => rfl)))) (pg_unl rfl (pgs_cons (pg_name (i := 2) nd rfl (Or.inl rfl)) (pgs_cons (pg_name (i := 3) nd rfl (Or.inl rfl)) pgs_nil))))
      (pss_cons (ps_setLc (i := 4) (own := [("k", 11)]) (g := gName 11) (tt := tYes) rfl nd rfl rfl (sw_true rfl rfl rfl (by decide +kernel)) (pi_range1 (by rfl) n_range (pa_cons (pe_op op_add pe_int (pe_call G_m_law_pick (hr.mono (by decide)) (by rfl) g_m_law_pick k_m_law_pick b_m_law_pick .nil pass0 (pa_cons (pv 0) (pa_cons pe_int pa_nil)))) pa_nil)) (blkOk_by (own := [("k", 11)]) (N := N_m_law_picture) (sc := (defScope sm_law_picture)) (by decide +kernel)) (fun _ _ _ _ _ => (pg_name (i := 11) nd rfl (by first | exact Or.inl rfl | exact Or.inr rfl))) (fun _ _ _ _ _ => pts_nil) (fun _ _ _ _ _ => (pe_call G_m_law_colour (hr.mono (by decide)) (by rfl) g_m_law_colour k_m_law_colour b_m_law_colour .nil pass0 (pa_cons (pv 0) (pa_cons (pv 1) pa_nil)))))
      (pss_cons (ps_set (i := 5) nd rfl (Or.inl rfl) (pe_lst pa_nil))
      (pss_cons (ps_for PassesOwn.never rfl (pi_range1 (by rfl) n_range (pa_cons (pv 2) pa_nil)) (pg_name (i := 6) nd rfl (by first | exact Or.inl rfl | exact Or.inr rfl))
      (pss_cons (ps_set (i := 7) nd rfl (Or.inl rfl) (pe_lst pa_nil))
      (pss_cons (ps_for PassesOwn.never rfl (pi_range1 (by rfl) n_range (pa_cons (pv 3) pa_nil)) (pg_name (i := 8) nd rfl (by first | exact Or.inl rfl | exact Or.inr rfl))
      (pss_cons (ps_set (i := 9) nd rfl (Or.inl rfl) (pe_ix (kIx (r := rIxL) (K := K) ix_list rfl) (pv 4) (pe_call G_m_law_pick (hr.mono (by decide)) (by rfl) g_m_law_pick k_m_law_pick b_m_law_pick .nil pass0 (pa_cons (pv 0) (pa_cons (pe_callB (kCa (r := rLenA) (K := K) call_len_seq rfl) (by rfl) n_len (by decide +kernel) (pa_cons (pv 4) pa_nil)) pa_nil))) (fun _ _ => rfl)))
      (Evl.pss_cut (ps_if (pt_cmpR op_eq (pe_call G_m_law_pick (hr.mono (by decide)) (by rfl) g_m_law_pick k_m_law_pick b_m_law_pick .nil pass0 (pa_cons (pv 0) (pa_cons pe_int pa_nil))) pe_int (nomark _)) (pss_cons (ps_set (i := 9) nd rfl (Or.inl rfl) (pe_call G_m_law_colour (hr.mono (by decide)) (by rfl) g_m_law_colour k_m_law_colour b_m_law_colour .nil pass0 (pa_cons (pv 0) (pa_cons (pv 1) pa_nil))))
      pss_nil) pss_nil)
      (pss_cons (ps_expr (pe_bm PySem.F.plainAttrs_list PySem.F.slot_list_append PySem.F.type_list_append mt_append (pv 7) (pa_cons (pv 9) pa_nil)))
      pss_nil))))
      (pss_cons (ps_expr (pe_bm PySem.F.plainAttrs_list PySem.F.slot_list_append PySem.F.type_list_append mt_append (pv 5) (pa_cons (pv 7) pa_nil)))
      pss_nil))))
      (pss_cons (ps_ret (pv 5)) pss_nil))))), ?_⟩
    rintro as m R ⟨l_left, v_left, v_kind, r_, w_left, h0, rfl, rfl, rfl⟩ F D rfl hk hfin hnx
    unfold m_law_picture at h0
    show Wp _ _ _ [.rf l_left, .da ((dP dI dI) v_kind), .un, .un, .un, .un, .un, .un, .un, .un, .un, .un] [(l_left, .ls (List.map dI v_left))]
    obtain ⟨rg1, q2, h0⟩ := bindS h0
    obtain ⟨u15, q16, h0⟩ := bindS h0
    obtain ⟨⟨o18, c17⟩, q31, h0⟩ := bindS h0
    obtain ⟨⟨w32, w33⟩, q34, h0⟩ := bindS h0
    refine wp_unpL2 (f := dI) (i := 2) (j := 3) (lc_end (lc_mapS (f2 := dI) (fun (s_ : (List Int)) => [(l_left, .ls (List.map dI s_))]) (src_R1 (j := 10) (ea_cons (ev_int (i := 2)) ea_nil) q2) rfl (by decide) (fun _ => (fun _ => True.intro)) q16 q31 (by rintro s19 v_side3 y_ s_ hx_ h_; obtain ⟨⟨t20, c21⟩, q22, h_⟩ := bindS h_; obtain ⟨⟨t23, c24⟩, q25, h_⟩ := bindS h_; obtain ⟨⟨t26, c27⟩, q28, h_⟩ := bindS h_; obtain ⟨t29, q30, h_⟩ := bindS h_; cases h_; exact (ev_op (show Ev _ _ _ _ (.da ((dL dI) ([((1 : Int) + t20), ((1 : Int) + t23)] : (List Int)))) _ from ev_lst (dl := [dI ((1 : Int) + t20), dI ((1 : Int) + t23)]) (ea_cons (ev_op (ev_int (i := 1)) (ev_call1 0 (ea_cons (ev_rf (i := 0) rfl) (ea_cons (ev_int (i := 6)) ea_nil)) rfl ⟨_, ⟨_, _, _, _, _, q22, rfl, rfl, rfl⟩, fun _ _ h => h⟩) rr_i) (ea_cons (ev_op (ev_int (i := 1)) (ev_call1 0 (ea_cons (ev_rf (i := 0) rfl) (ea_cons (ev_int (i := 16)) ea_nil)) rfl ⟨_, ⟨_, _, _, _, _, q25, rfl, rfl, rfl⟩, fun _ _ h => h⟩) rr_i) ea_nil)) (Nat.le_of_ble_eq_true rfl)) (ev_cb (ea_cons (ev_op (ev_call1 0 (ea_cons (ev_rf (i := 0) rfl) (ea_cons (ev_int (i := 8)) ea_nil)) rfl ⟨_, ⟨_, _, _, _, _, q28, rfl, rfl, rfl⟩, fun _ _ h => h⟩) (ev_int (i := 0)) rr_eqI) ea_nil) rc_intB) (rr_ixL (f := dI) q30))))) (two_some q34) ?_
    show Wp _ _ _ [.rf l_left, .da ((dP dI dI) v_kind), .da (dI w32), .da (dI w33), .un, .un, .un, .un, .un, .un, .un, .un] [(l_left, .ls (List.map dI c17))]
    obtain ⟨⟨t35, c36⟩, q37, h0⟩ := bindS h0
    obtain ⟨rg38, q39, h0⟩ := bindS h0
    obtain ⟨u44, q45, h0⟩ := bindS h0
    obtain ⟨⟨o47, c46⟩, q52, h0⟩ := bindS h0
    refine wp_asg (i := 4) (lc_end (lc_mapS (f2 := (dU dI)) (fun (s_ : (List Int)) => [(l_left, .ls (List.map dI s_))]) (src_R1 (j := 11) (ea_cons (ev_op (ev_int (i := 1)) (ev_call1 0 (ea_cons (ev_rf (i := 0) rfl) (ea_cons (ev_int (i := 8)) ea_nil)) rfl ⟨_, ⟨_, _, _, _, _, q37, rfl, rfl, rfl⟩, fun _ _ h => h⟩) rr_i) ea_nil) q39) rfl (by decide) (fun _ => (fun _ => True.intro)) q45 q52 (by rintro s48 v_k40 y_ s_ hx_ h_; obtain ⟨⟨t49, c50⟩, q51, h_⟩ := bindS h_; cases h_; exact (ev_call1 0 (ea_cons (ev_rf (i := 0) rfl) (ea_cons (ev_var (i := 1) rfl) ea_nil)) rfl ⟨_, ⟨_, _, _, _, _, q51, rfl, rfl, rfl⟩, fun _ _ h => h⟩)))) ?_
    show Wp _ _ _ [.rf l_left, .da ((dP dI dI) v_kind), .da (dI w32), .da (dI w33), .da ((dL (dU dI)) o47), .un, .un, .un, .un, .un, .un, .un] [(l_left, .ls (List.map dI c46))]
    refine wp_asgN (i := 5) (show EvN _ _ _ _ (.ls (List.map (dL (dU dI)) ([] : (List (List (List Int)))))) _ from en_lst (dl := []) ea_nil (Nat.le_of_ble_eq_true rfl)) (fun l_53 nk_l_53 => ?_) rfl
    show Wp _ _ _ [.rf l_left, .da ((dP dI dI) v_kind), .da (dI w32), .da (dI w33), .da ((dL (dU dI)) o47), .rf l_53, .un, .un, .un, .un, .un, .un] [(l_left, .ls (List.map dI c46)), (l_53, .ls (List.map (dL (dU dI)) ([] : (List (List (List Int))))))]
    obtain ⟨rg54, q55, h0⟩ := bindS h0
    obtain ⟨⟨c201, c202⟩, q203, h0⟩ := bindS h0
    refine wp_forF (fun (s_ : (List Int) × (List (List (List Int)))) => [.rf l_left, .da ((dP dI dI) v_kind), .da (dI w32), .da (dI w33), .da ((dL (dU dI)) o47), .rf l_53, .un, .un, .un, .un, .un, .un]) (fun (s_ : (List Int) × (List (List (List Int)))) => [(l_left, .ls (List.map dI s_.1)), (l_53, .ls (List.map (dL (dU dI)) s_.2))]) (src_R1 (j := 6) (ea_cons (ev_var (i := 2) rfl) ea_nil) q55) q203 (.cons .rfl (.cons .rfl (.cons .rfl (.cons .rfl (.cons .rfl (.cons .rfl (.cons .un (.cons .un (.cons .un (.cons .un (.cons .un (.cons .un Wks.nil)))))))))))) rfl (fun _ => True.intro) ?_ ?_
    · rintro lo1 ⟨c57, c58⟩ v_row56 s_ hx1 h1 D1 he1 hn1 hct1
      show Wp _ _ _ [.rf l_left, .da ((dP dI dI) v_kind), .da (dI w32), .da (dI w33), .da ((dL (dU dI)) o47), .rf l_53, .da (dI v_row56), .un, .un, .un, .un, .un] [(l_left, .ls (List.map dI c57)), (l_53, .ls (List.map (dL (dU dI)) c58))]
      refine wp_asgN (i := 7) (show EvN _ _ _ _ (.ls (List.map (dU dI) ([] : (List (List Int))))) _ from en_lst (dl := []) ea_nil (Nat.le_of_ble_eq_true rfl)) (fun l_130 nk_l_130 => ?_) rfl
      show Wp _ _ _ [.rf l_left, .da ((dP dI dI) v_kind), .da (dI w32), .da (dI w33), .da ((dL (dU dI)) o47), .rf l_53, .da (dI v_row56), .rf l_130, .un, .un, .un, .un] [(l_left, .ls (List.map dI c57)), (l_53, .ls (List.map (dL (dU dI)) c58)), (l_130, .ls (List.map (dU dI) ([] : (List (List Int)))))]
      obtain ⟨rg131, q132, h1⟩ := bindS h1
      obtain ⟨⟨c196, c197⟩, q200, h1⟩ := bindS h1
      refine wp_forF (fun (s_ : (List Int) × (List (List Int))) => [.rf l_left, .da ((dP dI dI) v_kind), .da (dI w32), .da (dI w33), .da ((dL (dU dI)) o47), .rf l_53, .da (dI v_row56), .rf l_130, .un, .un, .un, .un]) (fun (s_ : (List Int) × (List (List Int))) => [(l_left, .ls (List.map dI s_.1)), (l_53, .ls (List.map (dL (dU dI)) c58)), (l_130, .ls (List.map (dU dI) s_.2))]) (src_R1 (j := 8) (ea_cons (ev_var (i := 3) rfl) ea_nil) q132) q200 (.cons .rfl (.cons .rfl (.cons .rfl (.cons .rfl (.cons .rfl (.cons .rfl (.cons .rfl (.cons .rfl (.cons .un (.cons .un (.cons .un (.cons .un Wks.nil)))))))))))) rfl (fun _ => True.intro) ?_ ?_
      · rintro lo2 ⟨c156, c157⟩ v_column133 s_ hx2 h2 D2 he2 hn2 hct2
        show Wp _ _ _ [.rf l_left, .da ((dP dI dI) v_kind), .da (dI w32), .da (dI w33), .da ((dL (dU dI)) o47), .rf l_53, .da (dI v_row56), .rf l_130, .da (dI v_column133), .un, .un, .un] [(l_left, .ls (List.map dI c156)), (l_53, .ls (List.map (dL (dU dI)) c58)), (l_130, .ls (List.map (dU dI) c157))]
        obtain ⟨⟨t177, c178⟩, q179, h2⟩ := bindS h2
        obtain ⟨t180, q181, h2⟩ := bindS h2
        refine wp_asg (i := 9) (ev_op (ev_var (i := 4) rfl) (ev_call1 0 (ea_cons (ev_rf (i := 0) rfl) (ea_cons (ev_cb (ea_cons (ev_var (i := 4) rfl) ea_nil) (rc_lenL (f := (dU dI)))) ea_nil)) rfl ⟨_, ⟨_, _, _, _, _, q179, rfl, rfl, rfl⟩, fun _ _ h => h⟩) (rr_ixL (f := (dU dI)) q181)) ?_
        show Wp _ _ _ [.rf l_left, .da ((dP dI dI) v_kind), .da (dI w32), .da (dI w33), .da ((dL (dU dI)) o47), .rf l_53, .da (dI v_row56), .rf l_130, .da (dI v_column133), .da ((dU dI) t180), .un, .un] [(l_left, .ls (List.map dI c178)), (l_53, .ls (List.map (dL (dU dI)) c58)), (l_130, .ls (List.map (dU dI) c157))]
        obtain ⟨⟨t182, c183⟩, q184, h2⟩ := bindS h2
        obtain ⟨⟨v_colour188, c189⟩, q193, h2⟩ := bindS h2
        refine wp_cutIf (ds' := [.rf l_left, .da ((dP dI dI) v_kind), .da (dI w32), .da (dI w33), .da ((dL (dU dI)) o47), .rf l_53, .da (dI v_row56), .rf l_130, .da (dI v_column133), .da ((dU dI) v_colour188), .un, .un]) (m' := [(l_left, .ls (List.map dI c189)), (l_53, .ls (List.map (dL (dU dI)) c58)), (l_130, .ls (List.map (dU dI) c157))]) ?_ (et_test (ev_op (ev_call1 0 (ea_cons (ev_rf (i := 0) rfl) (ea_cons (ev_int (i := 4)) ea_nil)) rfl ⟨_, ⟨_, _, _, _, _, q184, rfl, rfl, rfl⟩, fun _ _ h => h⟩) (ev_int (i := 0)) rr_eqI)) (fun hc => ?_) (fun hc => ?_)
        · obtain ⟨u194, q195, h2⟩ := bindS h2
          refine wp_expr (ev_bm (ev_rf (i := 7) rfl) (j := 2) rfl (ea_cons (ev_var (i := 9) rfl) ea_nil) (rm_app (f := (dU dI)) 2 rfl q195)) ?_
          show Wp _ _ _ [.rf l_left, .da ((dP dI dI) v_kind), .da (dI w32), .da (dI w33), .da ((dL (dU dI)) o47), .rf l_53, .da (dI v_row56), .rf l_130, .da (dI v_column133), .da ((dU dI) v_colour188), .un, .un] [(l_left, .ls (List.map dI c189)), (l_53, .ls (List.map (dL (dU dI)) c58)), (l_130, .ls (List.map (dU dI) (c157 ++ [v_colour188])))]
          cases h2
          exact wp_next fun σ H a => hn2 σ H (at_weak (.cons .rfl (.cons .rfl (.cons .rfl (.cons .rfl (.cons .rfl (.cons .rfl (.cons .rfl (.cons .rfl (.cons .un (.cons .un (.cons .un (.cons .un Wks.nil)))))))))))) a)
        · have h106 := condT hc q193
          obtain ⟨⟨t190, c191⟩, q192, h106⟩ := bindS h106
          refine wp_asg (i := 9) (ev_call1 0 (ea_cons (ev_rf (i := 0) rfl) (ea_cons (ev_var (i := 1) rfl) ea_nil)) rfl ⟨_, ⟨_, _, _, _, _, q192, rfl, rfl, rfl⟩, fun _ _ h => h⟩) ?_
          show Wp _ _ _ [.rf l_left, .da ((dP dI dI) v_kind), .da (dI w32), .da (dI w33), .da ((dL (dU dI)) o47), .rf l_53, .da (dI v_row56), .rf l_130, .da (dI v_column133), .da ((dU dI) t190), .un, .un] [(l_left, .ls (List.map dI c191)), (l_53, .ls (List.map (dL (dU dI)) c58)), (l_130, .ls (List.map (dU dI) c157))]
          cases h106
          exact wp_nextW (.cons .rfl (.cons .rfl (.cons .rfl (.cons .rfl (.cons .rfl (.cons .rfl (.cons .rfl (.cons .rfl (.cons .rfl (.cons .rfl (.cons .un (.cons .un Wks.nil)))))))))))) rfl
        · have h106 := condF hc q193
          cases h106
          exact wp_nextW (.cons .rfl (.cons .rfl (.cons .rfl (.cons .rfl (.cons .rfl (.cons .rfl (.cons .rfl (.cons .rfl (.cons .rfl (.cons .rfl (.cons .un (.cons .un Wks.nil)))))))))))) rfl
      · show Wp _ _ _ [.rf l_left, .da ((dP dI dI) v_kind), .da (dI w32), .da (dI w33), .da ((dL (dU dI)) o47), .rf l_53, .da (dI v_row56), .rf l_130, .un, .un, .un, .un] [(l_left, .ls (List.map dI c196)), (l_53, .ls (List.map (dL (dU dI)) c58)), (l_130, .ls (List.map (dU dI) c197))]
        refine wp_frz (i := 7) (j := 2) (l := l_130) rfl rfl nk_l_130 ?_
        show Wp _ _ _ [.rf l_left, .da ((dP dI dI) v_kind), .da (dI w32), .da (dI w33), .da ((dL (dU dI)) o47), .rf l_53, .da (dI v_row56), .da ((dL (dU dI)) c197), .un, .un, .un, .un] [(l_left, .ls (List.map dI c196)), (l_53, .ls (List.map (dL (dU dI)) c58))]
        obtain ⟨u198, q199, h1⟩ := bindS h1
        refine wp_expr (ev_bm (ev_rf (i := 5) rfl) (j := 1) rfl (ea_cons (ev_var (i := 7) rfl) ea_nil) (rm_app (f := (dL (dU dI))) 1 rfl q199)) ?_
        show Wp _ _ _ [.rf l_left, .da ((dP dI dI) v_kind), .da (dI w32), .da (dI w33), .da ((dL (dU dI)) o47), .rf l_53, .da (dI v_row56), .da ((dL (dU dI)) c197), .un, .un, .un, .un] [(l_left, .ls (List.map dI c196)), (l_53, .ls (List.map (dL (dU dI)) (c58 ++ [c197])))]
        cases h1
        exact wp_next fun σ H a => hn1 σ H (at_weak (.cons .rfl (.cons .rfl (.cons .rfl (.cons .rfl (.cons .rfl (.cons .rfl (.cons .un (.cons .un (.cons .un (.cons .un (.cons .un (.cons .un Wks.nil)))))))))))) a)
    · show Wp _ _ _ [.rf l_left, .da ((dP dI dI) v_kind), .da (dI w32), .da (dI w33), .da ((dL (dU dI)) o47), .rf l_53, .un, .un, .un, .un, .un, .un] [(l_left, .ls (List.map dI c201)), (l_53, .ls (List.map (dL (dU dI)) c202))]
      refine wp_frz (i := 5) (j := 1) (l := l_53) rfl rfl nk_l_53 ?_
      show Wp _ _ _ [.rf l_left, .da ((dP dI dI) v_kind), .da (dI w32), .da (dI w33), .da ((dL (dU dI)) o47), .da ((dL (dL (dU dI))) c202), .un, .un, .un, .un, .un, .un] [(l_left, .ls (List.map dI c201))]
      have z0_ := Option.some.inj h0
      obtain ⟨e0_, e1_⟩ := Prod.mk.inj z0_
      subst e0_
      subst e1_
      exact wp_retS (ev_var (i := 5) rfl) hfin ⟨rfl, rfl⟩ (List.Sublist.cons₂ _ (List.nil_sublist _))
end K83
set_option maxHeartbeats 2000000
namespace K83
open PySem PySem.Spec PyProof.Rows L2 Evl FC
theorem ok_m_law_shares {P : Program} {w : World} {K : PySem.W.Frag} {mg : Str → Option Value} {base : Heap} {f : Addr} {fd : FuncData} (FF : Fun K "_law_shares" "_law_shares" sm_law_shares f fd) {f_m_law_pick : Addr} {fd_m_law_pick : FuncData} (G_m_law_pick : FnOk P w K mg base CX0 2 f_m_law_pick fd_m_law_pick ["left", "many"] (spOf K (pf_m_law_pick))) (g_m_law_pick : mg "_law_pick" = some (.ref f_m_law_pick)) (k_m_law_pick : PySem.W.keepIn K (.ref f_m_law_pick) = true) (b_m_law_pick : Binds K fd_m_law_pick ["left", "many"] []) (n_int : mg "int" = none) (n_len : mg "len" = none) (n_range : mg "range" = none) : FnOk P w K mg base CX0 3 f fd ["left"] (spOf K (pf_m_law_shares)) := by
  refine ok_of (N := N_m_law_shares) FF sc_m_law_shares (fun as m R hG => ?_) (fun cdv A outer s H E hr => ?_)
  · obtain ⟨l_left, v_left, r_, w_left, _, rfl, _⟩ := hG
    rfl
  · have nd : (N_m_law_shares : List Str).Nodup := sc_m_law_shares.nd
    refine ⟨_, (pss_cons (ps_if (pt_cmpR op_eq (pe_call G_m_law_pick (hr.mono (by decide)) (by rfl) g_m_law_pick k_m_law_pick b_m_law_pick .nil pass0 (pa_cons (pv 0) (pa_cons pe_int pa_nil))) pe_int (nomark _)) (pss_cons (ps_ret (pe_lst (pa_cons (pe_tup (pa_cons pe_int (pa_cons pe_int (pa_cons pe_int pa_nil)))) (pa_cons (pe_tup (pa_cons (pe_un un_neg pe_int) (pa_cons pe_int (pa_cons pe_int pa_nil)))) (pa_cons (pe_tup (pa_cons pe_int (pa_cons pe_int (pa_cons pe_int pa_nil)))) (pa_cons (pe_tup (pa_cons pe_int (pa_cons pe_int (pa_cons pe_int pa_nil)))) pa_nil)))))) pss_nil) pss_nil)
      (pss_cons (ps_set (i := 2) nd rfl (Or.inl rfl) (pe_op op_cat (pe_op op_cat (pe_lst (pa_cons (pe_tup (pa_cons pe_int (pa_cons pe_int pa_nil))) (pa_cons (pe_tup (pa_cons pe_int (pa_cons pe_int pa_nil))) pa_nil))) (pe_lc (own := [("across", 1)]) (g := gName 1) (tt := tYes) rfl nd (pi_range2 (by rfl) n_range (pa_cons (pe_un un_neg pe_int) (pa_cons pe_int pa_nil))) (blkOk_by (own := [("across", 1)]) (N := N_m_law_shares) (sc := (defScope sm_law_shares)) (by decide +kernel)) (fun _ _ _ _ _ => (pg_name (i := 1) nd rfl (by first | exact Or.inl rfl | exact Or.inr rfl))) (fun _ _ _ _ _ => pts_nil) (fun _ _ _ _ _ => (pe_tup (pa_cons (pv 1) (pa_cons pe_int pa_nil)))))) (pe_lc (own := [("across", 1)]) (g := gName 1) (tt := tYes) rfl nd (pi_range2 (by rfl) n_range (pa_cons (pe_un un_neg pe_int) (pa_cons pe_int pa_nil))) (blkOk_by (own := [("across", 1)]) (N := N_m_law_shares) (sc := (defScope sm_law_shares)) (by decide +kernel)) (fun _ _ _ _ _ => (pg_name (i := 1) nd rfl (by first | exact Or.inl rfl | exact Or.inr rfl))) (fun _ _ _ _ _ => pts_nil) (fun _ _ _ _ _ => (pe_tup (pa_cons (pv 1) (pa_cons pe_int pa_nil)))))))
      (pss_cons (ps_set (i := 3) nd rfl (Or.inl rfl) (pe_lst pa_nil))
      (pss_cons (ps_for PassesOwn.never rfl (pi_range1 (by rfl) n_range (pa_cons (pe_ix (kIx (r := rIxL) (K := K) ix_list rfl) (pe_lst (pa_cons (pe_call G_m_law_pick (hr.mono (by decide)) (by rfl) g_m_law_pick k_m_law_pick b_m_law_pick .nil pass0 (pa_cons (pv 0) (pa_cons pe_int pa_nil))) (pa_cons pe_int pa_nil))) (pe_callTy call_int1 (by rfl) n_int (by decide +kernel) (pa_cons (pe_cmpR op_eq (pe_call G_m_law_pick (hr.mono (by decide)) (by rfl) g_m_law_pick k_m_law_pick b_m_law_pick .nil pass0 (pa_cons (pv 0) (pa_cons pe_int pa_nil))) pe_int (nomark _)) pa_nil)) (fun _ _ => rfl)) pa_nil)) (pg_name (i := 4) nd rfl (by first | exact Or.inl rfl | exact Or.inr rfl))
      (pss_cons (ps_asg (pe_bm PySem.F.plainAttrs_list PySem.F.slot_list_pop PySem.F.type_list_pop mt_popAt (pv 2) (pa_cons (pe_call G_m_law_pick (hr.mono (by decide)) (by rfl) g_m_law_pick k_m_law_pick b_m_law_pick .nil pass0 (pa_cons (pv 0) (pa_cons (pe_callB (kCa (r := rLenA) (K := K) call_len_seq rfl) (by rfl) n_len (by decide +kernel) (pa_cons (pv 2) pa_nil)) pa_nil))) pa_nil)) (pg_tup rfl (pgs_cons (pg_name (i := 1) nd rfl (Or.inl rfl)) (pgs_cons (pg_name (i := 5) nd rfl (Or.inl rfl)) pgs_nil))))
      (pss_cons (ps_expr (pe_bm PySem.F.plainAttrs_list PySem.F.slot_list_append PySem.F.type_list_append mt_append (pv 3) (pa_cons (pe_tup (pa_cons (pv 1) (pa_cons (pv 5) (pa_cons (pe_ix (kIx (r := rIxL) (K := K) ix_list rfl) (pe_lst (pa_cons pe_int (pa_cons pe_int (pa_cons pe_int (pa_cons pe_int (pa_cons (pe_op op_add pe_int (pe_call G_m_law_pick (hr.mono (by decide)) (by rfl) g_m_law_pick k_m_law_pick b_m_law_pick .nil pass0 (pa_cons (pv 0) (pa_cons pe_int pa_nil)))) pa_nil)))))) (pe_call G_m_law_pick (hr.mono (by decide)) (by rfl) g_m_law_pick k_m_law_pick b_m_law_pick .nil pass0 (pa_cons (pv 0) (pa_cons pe_int pa_nil))) (fun _ _ => rfl)) pa_nil)))) pa_nil)))
      pss_nil)))
      (pss_cons (ps_ret (pv 3)) pss_nil))))), ?_⟩
    rintro as m R ⟨l_left, v_left, r_, w_left, h0, rfl, rfl, rfl⟩ F D rfl hk hfin hnx
    unfold m_law_shares at h0
    show Wp _ _ _ [.rf l_left, .un, .un, .un, .un, .un] [(l_left, .ls (List.map dI v_left))]
    obtain ⟨⟨t1, c2⟩, q3, h0⟩ := bindS h0
    refine wp_if (et_test (ev_op (ev_call1 0 (ea_cons (ev_rf (i := 0) rfl) (ea_cons (ev_int (i := 4)) ea_nil)) rfl ⟨_, ⟨_, _, _, _, _, q3, rfl, rfl, rfl⟩, fun _ _ h => h⟩) (ev_int (i := 0)) rr_eqI)) (fun hc => ?_) (fun hc => ?_)
    · have h0 := condT hc h0
      have z0_ := Option.some.inj h0
      obtain ⟨e0_, e1_⟩ := Prod.mk.inj z0_
      subst e0_
      subst e1_
      exact wp_retS (show Ev _ _ _ _ (.da ((dL (d3 dI dI dI)) ([((1 : Int), (0 : Int), (7 : Int)), ((-(1 : Int)), (1 : Int), (3 : Int)), ((0 : Int), (1 : Int), (5 : Int)), ((1 : Int), (1 : Int), (1 : Int))] : (List (Int × Int × Int))))) _ from ev_lst (dl := [(d3 dI dI dI) ((1 : Int), (0 : Int), (7 : Int)), (d3 dI dI dI) ((-(1 : Int)), (1 : Int), (3 : Int)), (d3 dI dI dI) ((0 : Int), (1 : Int), (5 : Int)), (d3 dI dI dI) ((1 : Int), (1 : Int), (1 : Int))]) (ea_cons (show Ev _ _ _ _ (.da ((d3 dI dI dI) ((1 : Int), (0 : Int), (7 : Int)))) _ from ev_tup (dl := [dI (1 : Int), dI (0 : Int), dI (7 : Int)]) (ea_cons (ev_int (i := 1)) (ea_cons (ev_int (i := 0)) (ea_cons (ev_int (i := 7)) ea_nil))) (Nat.le_of_ble_eq_true rfl)) (ea_cons (show Ev _ _ _ _ (.da ((d3 dI dI dI) ((-(1 : Int)), (1 : Int), (3 : Int)))) _ from ev_tup (dl := [dI (-(1 : Int)), dI (1 : Int), dI (3 : Int)]) (ea_cons (ev_un (ev_int (i := 1)) ru_neg) (ea_cons (ev_int (i := 1)) (ea_cons (ev_int (i := 3)) ea_nil))) (Nat.le_of_ble_eq_true rfl)) (ea_cons (show Ev _ _ _ _ (.da ((d3 dI dI dI) ((0 : Int), (1 : Int), (5 : Int)))) _ from ev_tup (dl := [dI (0 : Int), dI (1 : Int), dI (5 : Int)]) (ea_cons (ev_int (i := 0)) (ea_cons (ev_int (i := 1)) (ea_cons (ev_int (i := 5)) ea_nil))) (Nat.le_of_ble_eq_true rfl)) (ea_cons (show Ev _ _ _ _ (.da ((d3 dI dI dI) ((1 : Int), (1 : Int), (1 : Int)))) _ from ev_tup (dl := [dI (1 : Int), dI (1 : Int), dI (1 : Int)]) (ea_cons (ev_int (i := 1)) (ea_cons (ev_int (i := 1)) (ea_cons (ev_int (i := 1)) ea_nil))) (Nat.le_of_ble_eq_true rfl)) ea_nil)))) (Nat.le_of_ble_eq_true rfl)) hfin ⟨rfl, rfl⟩ (List.Sublist.cons₂ _ (List.nil_sublist _))
    · have h0 := condF hc h0
      refine wp_next ?_
      obtain ⟨rg5, q6, h0⟩ := bindS h0
      obtain ⟨u8, q9, h0⟩ := bindS h0
      obtain ⟨u10, q11, h0⟩ := bindS h0
      obtain ⟨rg12, q13, h0⟩ := bindS h0
      obtain ⟨u15, q16, h0⟩ := bindS h0
      obtain ⟨u17, q18, h0⟩ := bindS h0
      refine wp_asgN (i := 2) (en_cat (f := (dP dI dI)) (ev_op (show Ev _ _ _ _ (.da ((dL (dP dI dI)) ([((1 : Int), (0 : Int)), ((2 : Int), (0 : Int))] : (List (Int × Int))))) _ from ev_lst (dl := [(dP dI dI) ((1 : Int), (0 : Int)), (dP dI dI) ((2 : Int), (0 : Int))]) (ea_cons (show Ev _ _ _ _ (.da ((dP dI dI) ((1 : Int), (0 : Int)))) _ from ev_tup (dl := [dI (1 : Int), dI (0 : Int)]) (ea_cons (ev_int (i := 1)) (ea_cons (ev_int (i := 0)) ea_nil)) (Nat.le_of_ble_eq_true rfl)) (ea_cons (show Ev _ _ _ _ (.da ((dP dI dI) ((2 : Int), (0 : Int)))) _ from ev_tup (dl := [dI (2 : Int), dI (0 : Int)]) (ea_cons (ev_int (i := 2)) (ea_cons (ev_int (i := 0)) ea_nil)) (Nat.le_of_ble_eq_true rfl)) ea_nil)) (Nat.le_of_ble_eq_true rfl)) (lc_end (lc_map (f2 := (dP dI dI)) (step := fun x => some ((fun (v_across7 : Int) => (v_across7, (1 : Int))) x)) (src_R2 (j := 1) (ea_cons (ev_un (ev_int (i := 2)) ru_neg) (ea_cons (ev_int (i := 3)) ea_nil)) q6) (by decide) (fun _ => True.intro) q9 (mapO_pure _) (by rintro v_across7 y_ hx_ h_; cases h_; exact (show Ev _ _ _ _ (.da ((dP dI dI) (v_across7, (1 : Int)))) _ from ev_tup (dl := [dI v_across7, dI (1 : Int)]) (ea_cons (ev_var (i := 1) rfl) (ea_cons (ev_int (i := 1)) ea_nil)) (Nat.le_of_ble_eq_true rfl))))) (rr_cat q11)) (lc_end (lc_map (f2 := (dP dI dI)) (step := fun x => some ((fun (v_across14 : Int) => (v_across14, (2 : Int))) x)) (src_R2 (j := 1) (ea_cons (ev_un (ev_int (i := 2)) ru_neg) (ea_cons (ev_int (i := 3)) ea_nil)) q13) (by decide) (fun _ => True.intro) q16 (mapO_pure _) (by rintro v_across14 y_ hx_ h_; cases h_; exact (show Ev _ _ _ _ (.da ((dP dI dI) (v_across14, (2 : Int)))) _ from ev_tup (dl := [dI v_across14, dI (2 : Int)]) (ea_cons (ev_var (i := 1) rfl) (ea_cons (ev_int (i := 2)) ea_nil)) (Nat.le_of_ble_eq_true rfl))))) q18) (fun l_4 nk_l_4 => ?_) rfl
      show Wp _ _ _ [.rf l_left, .un, .rf l_4, .un, .un, .un] [(l_left, .ls (List.map dI c2)), (l_4, .ls (List.map (dP dI dI) ((([((1 : Int), (0 : Int)), ((2 : Int), (0 : Int))] : (List (Int × Int))) ++ (List.map (fun (v_across7 : Int) => (v_across7, (1 : Int))) rg5)) ++ (List.map (fun (v_across14 : Int) => (v_across14, (2 : Int))) rg12))))]
      refine wp_asgN (i := 3) (show EvN _ _ _ _ (.ls (List.map (d3 dI dI dI) ([] : (List (Int × Int × Int))))) _ from en_lst (dl := []) ea_nil (Nat.le_of_ble_eq_true rfl)) (fun l_19 nk_l_19 => ?_) rfl
      show Wp _ _ _ [.rf l_left, .un, .rf l_4, .rf l_19, .un, .un] [(l_left, .ls (List.map dI c2)), (l_4, .ls (List.map (dP dI dI) ((([((1 : Int), (0 : Int)), ((2 : Int), (0 : Int))] : (List (Int × Int))) ++ (List.map (fun (v_across7 : Int) => (v_across7, (1 : Int))) rg5)) ++ (List.map (fun (v_across14 : Int) => (v_across14, (2 : Int))) rg12)))), (l_19, .ls (List.map (d3 dI dI dI) ([] : (List (Int × Int × Int)))))]
      obtain ⟨⟨t20, c21⟩, q22, h0⟩ := bindS h0
      obtain ⟨⟨t23, c24⟩, q25, h0⟩ := bindS h0
      obtain ⟨t26, q27, h0⟩ := bindS h0
      obtain ⟨rg28, q29, h0⟩ := bindS h0
      obtain ⟨⟨c66, c67, c68⟩, q69, h0⟩ := bindS h0
      refine wp_forF (fun (s_ : (List Int) × (List (Int × Int)) × (List (Int × Int × Int))) => [.rf l_left, .un, .rf l_4, .rf l_19, .un, .un]) (fun (s_ : (List Int) × (List (Int × Int)) × (List (Int × Int × Int))) => [(l_left, .ls (List.map dI s_.1)), (l_4, .ls (List.map (dP dI dI) s_.2.1)), (l_19, .ls (List.map (d3 dI dI dI) s_.2.2))]) (src_R1 (j := 4) (ea_cons (ev_op (show Ev _ _ _ _ (.da ((dL dI) ([t20, (12 : Int)] : (List Int)))) _ from ev_lst (dl := [dI t20, dI (12 : Int)]) (ea_cons (ev_call1 0 (ea_cons (ev_rf (i := 0) rfl) (ea_cons (ev_int (i := 5)) ea_nil)) rfl ⟨_, ⟨_, _, _, _, _, q22, rfl, rfl, rfl⟩, fun _ _ h => h⟩) (ea_cons (ev_int (i := 12)) ea_nil)) (Nat.le_of_ble_eq_true rfl)) (ev_cb (ea_cons (ev_op (ev_call1 0 (ea_cons (ev_rf (i := 0) rfl) (ea_cons (ev_int (i := 8)) ea_nil)) rfl ⟨_, ⟨_, _, _, _, _, q25, rfl, rfl, rfl⟩, fun _ _ h => h⟩) (ev_int (i := 0)) rr_eqI) ea_nil) rc_intB) (rr_ixL (f := dI) q27)) ea_nil) q29) q69 (.cons .rfl (.cons .un (.cons .rfl (.cons .rfl (.cons .un (.cons .un Wks.nil)))))) rfl (fun _ => True.intro) ?_ ?_
      · rintro lo1 ⟨c31, c32, c33⟩ v_turn30 s_ hx1 h1 D1 he1 hn1 hct1
        show Wp _ _ _ [.rf l_left, .un, .rf l_4, .rf l_19, .da (dI v_turn30), .un] [(l_left, .ls (List.map dI c31)), (l_4, .ls (List.map (dP dI dI) c32)), (l_19, .ls (List.map (d3 dI dI dI) c33))]
        obtain ⟨⟨t50, c51⟩, q52, h1⟩ := bindS h1
        obtain ⟨⟨t53, c54⟩, q55, h1⟩ := bindS h1
        refine wp_unp2 (f := dI) (g := dI) (i := 1) (j := 5) (ev_bm (ev_rf (i := 2) rfl) (j := 1) rfl (ea_cons (ev_call1 0 (ea_cons (ev_rf (i := 0) rfl) (ea_cons (ev_cb (ea_cons (ev_rf (i := 2) rfl) ea_nil) (rc_lenC (f := (dP dI dI)) 1 rfl)) ea_nil)) rfl ⟨_, ⟨_, _, _, _, _, q52, rfl, rfl, rfl⟩, fun _ _ h => h⟩) ea_nil) (rm_popI (f := (dP dI dI)) 1 rfl q55)) ?_
        show Wp _ _ _ [.rf l_left, .da (dI (t53).1), .rf l_4, .rf l_19, .da (dI v_turn30), .da (dI (t53).2)] [(l_left, .ls (List.map dI c51)), (l_4, .ls (List.map (dP dI dI) c54)), (l_19, .ls (List.map (d3 dI dI dI) c33))]
        obtain ⟨⟨t56, c57⟩, q58, h1⟩ := bindS h1
        obtain ⟨⟨t59, c60⟩, q61, h1⟩ := bindS h1
        obtain ⟨t62, q63, h1⟩ := bindS h1
        obtain ⟨u64, q65, h1⟩ := bindS h1
        refine wp_expr (ev_bm (ev_rf (i := 3) rfl) (j := 2) rfl (ea_cons (show Ev _ _ _ _ (.da ((d3 dI dI dI) ((t53).1, (t53).2, t62))) _ from ev_tup (dl := [dI (t53).1, dI (t53).2, dI t62]) (ea_cons (ev_var (i := 1) rfl) (ea_cons (ev_var (i := 5) rfl) (ea_cons (ev_op (show Ev _ _ _ _ (.da ((dL dI) ([(1 : Int), (2 : Int), (3 : Int), (64 : Int), ((1 : Int) + t56)] : (List Int)))) _ from ev_lst (dl := [dI (1 : Int), dI (2 : Int), dI (3 : Int), dI (64 : Int), dI ((1 : Int) + t56)]) (ea_cons (ev_int (i := 1)) (ea_cons (ev_int (i := 2)) (ea_cons (ev_int (i := 3)) (ea_cons (ev_int (i := 64)) (ea_cons (ev_op (ev_int (i := 1)) (ev_call1 0 (ea_cons (ev_rf (i := 0) rfl) (ea_cons (ev_int (i := 64)) ea_nil)) rfl ⟨_, ⟨_, _, _, _, _, q58, rfl, rfl, rfl⟩, fun _ _ h => h⟩) rr_i) ea_nil))))) (Nat.le_of_ble_eq_true rfl)) (ev_call1 0 (ea_cons (ev_rf (i := 0) rfl) (ea_cons (ev_int (i := 5)) ea_nil)) rfl ⟨_, ⟨_, _, _, _, _, q61, rfl, rfl, rfl⟩, fun _ _ h => h⟩) (rr_ixL (f := dI) q63)) ea_nil))) (Nat.le_of_ble_eq_true rfl)) ea_nil) (rm_app (f := (d3 dI dI dI)) 2 rfl q65)) ?_
        show Wp _ _ _ [.rf l_left, .da (dI (t53).1), .rf l_4, .rf l_19, .da (dI v_turn30), .da (dI (t53).2)] [(l_left, .ls (List.map dI c60)), (l_4, .ls (List.map (dP dI dI) c54)), (l_19, .ls (List.map (d3 dI dI dI) (c33 ++ [((t53).1, (t53).2, t62)])))]
        cases h1
        exact wp_next fun σ H a => hn1 σ H (at_weak (.cons .rfl (.cons .un (.cons .rfl (.cons .rfl (.cons .un (.cons .un Wks.nil)))))) a)
      · show Wp _ _ _ [.rf l_left, .un, .rf l_4, .rf l_19, .un, .un] [(l_left, .ls (List.map dI c66)), (l_4, .ls (List.map (dP dI dI) c67)), (l_19, .ls (List.map (d3 dI dI dI) c68))]
        refine wp_frz (i := 3) (j := 2) (l := l_19) rfl rfl nk_l_19 ?_
        show Wp _ _ _ [.rf l_left, .un, .rf l_4, .da ((dL (d3 dI dI dI)) c68), .un, .un] [(l_left, .ls (List.map dI c66)), (l_4, .ls (List.map (dP dI dI) c67))]
        have z0_ := Option.some.inj h0
        obtain ⟨e0_, e1_⟩ := Prod.mk.inj z0_
        subst e0_
        subst e1_
        exact wp_retS (ev_var (i := 3) rfl) hfin ⟨rfl, rfl⟩ (List.Sublist.cons₂ _ (List.nil_sublist _))
end K83
set_option maxHeartbeats 2000000
namespace K83
open PySem PySem.Spec PyProof.Rows L2 Evl FC
theorem ok_m_law_turns {P : Program} {w : World} {K : PySem.W.Frag} {mg : Str → Option Value} {base : Heap} {f : Addr} {fd : FuncData} (FF : Fun K "_law_turns" "_law_turns" sm_law_turns f fd) (n_int : mg "int" = none) (n_range : mg "range" = none) : FnOk P w K mg base CX0 1 f fd ["high", "wide", "way"] (spOf K (pf_m_law_turns)) := by
  refine ok_of (N := N_m_law_turns) FF sc_m_law_turns (fun as m R hG => ?_) (fun cdv A outer s H E hr => ?_)
  · obtain ⟨v_high, v_wide, v_way, r_, _, rfl, _⟩ := hG
    rfl
  · have nd : (N_m_law_turns : List Str).Nodup := sc_m_law_turns.nd
    refine ⟨_, (pss_cons (ps_set (i := 3) nd rfl (Or.inl rfl) (pe_lst pa_nil))
      (pss_cons (ps_for PassesOwn.never rfl (pi_range1 (by rfl) n_range (pa_cons (pv 0) pa_nil)) (pg_name (i := 4) nd rfl (by first | exact Or.inl rfl | exact Or.inr rfl))
      (pss_cons (ps_set (i := 5) nd rfl (Or.inl rfl) (pe_ix (kIx (r := rIxL) (K := K) ix_list rfl) (pe_lst (pa_cons pe_int (pa_cons (pe_un un_neg pe_int) pa_nil))) (pe_op op_mulA (pe_op op_mod (pv 4) pe_int) (pe_callTy call_int1 (by rfl) n_int (by decide +kernel) (pa_cons (pe_cmpR op_eq (pv 2) pe_str (nomark _)) pa_nil))) (fun _ _ => rfl)))
      (pss_cons (ps_for PassesOwn.never rfl (pi_range1 (by rfl) n_range (pa_cons (pv 1) pa_nil)) (pg_name (i := 6) nd rfl (by first | exact Or.inl rfl | exact Or.inr rfl))
      (pss_cons (ps_expr (pe_bm PySem.F.plainAttrs_list PySem.F.slot_list_append PySem.F.type_list_append mt_append (pv 3) (pa_cons (pe_tup (pa_cons (pv 4) (pa_cons (pe_ix (kIx (r := rIxL) (K := K) ix_list rfl) (pe_lst (pa_cons (pv 6) (pa_cons (pe_op op_sub (pe_op op_sub (pv 1) pe_int) (pv 6)) pa_nil))) (pe_callTy call_int1 (by rfl) n_int (by decide +kernel) (pa_cons (pe_cmpR op_eq (pv 5) (pe_un un_neg pe_int) (nomark _)) pa_nil)) (fun _ _ => rfl)) (pa_cons (pv 5) pa_nil)))) pa_nil)))
      pss_nil))
      pss_nil)))
      (pss_cons (ps_ret (pv 3)) pss_nil))), ?_⟩
    rintro as m R ⟨v_high, v_wide, v_way, r_, h0, rfl, rfl, rfl⟩ F D rfl hk hfin hnx
    unfold m_law_turns at h0
    show Wp _ _ _ [.da (dI v_high), .da (dI v_wide), .da (dS v_way), .un, .un, .un, .un] []
    refine wp_asgN (i := 3) (show EvN _ _ _ _ (.ls (List.map (d3 dI dI dI) ([] : (List (Int × Int × Int))))) _ from en_lst (dl := []) ea_nil (Nat.le_of_ble_eq_true rfl)) (fun l_1 nk_l_1 => ?_) rfl
    show Wp _ _ _ [.da (dI v_high), .da (dI v_wide), .da (dS v_way), .rf l_1, .un, .un, .un] [(l_1, .ls (List.map (d3 dI dI dI) ([] : (List (Int × Int × Int)))))]
    obtain ⟨rg2, q3, h0⟩ := bindS h0
    obtain ⟨c46, q47, h0⟩ := bindS h0
    refine wp_forF (fun (s_ : (List (Int × Int × Int))) => [.da (dI v_high), .da (dI v_wide), .da (dS v_way), .rf l_1, .un, .un, .un]) (fun (s_ : (List (Int × Int × Int))) => [(l_1, .ls (List.map (d3 dI dI dI) s_))]) (src_R1 (j := 4) (ea_cons (ev_var (i := 0) rfl) ea_nil) q3) q47 (.cons .rfl (.cons .rfl (.cons .rfl (.cons .rfl (.cons .un (.cons .un (.cons .un Wks.nil))))))) rfl (fun _ => True.intro) ?_ ?_
    · rintro lo1 c5 v_row4 s_ hx1 h1 D1 he1 hn1 hct1
      show Wp _ _ _ [.da (dI v_high), .da (dI v_wide), .da (dS v_way), .rf l_1, .da (dI v_row4), .un, .un] [(l_1, .ls (List.map (d3 dI dI dI) c5))]
      obtain ⟨t26, q27, h1⟩ := bindS h1
      obtain ⟨t28, q29, h1⟩ := bindS h1
      obtain ⟨t30, q31, h1⟩ := bindS h1
      refine wp_asg (i := 5) (ev_op (show Ev _ _ _ _ (.da ((dL dI) ([(1 : Int), (-(1 : Int))] : (List Int)))) _ from ev_lst (dl := [dI (1 : Int), dI (-(1 : Int))]) (ea_cons (ev_int (i := 1)) (ea_cons (ev_un (ev_int (i := 1)) ru_neg) ea_nil)) (Nat.le_of_ble_eq_true rfl)) (ev_op (ev_op (ev_var (i := 4) rfl) (ev_int (i := 2)) (rr_mod q27)) (ev_cb (ea_cons (ev_op (ev_var (i := 2) rfl) ev_str rr_eqS) ea_nil) rc_intB) (rr_mul q29)) (rr_ixL (f := dI) q31)) ?_
      show Wp _ _ _ [.da (dI v_high), .da (dI v_wide), .da (dS v_way), .rf l_1, .da (dI v_row4), .da (dI t30), .un] [(l_1, .ls (List.map (d3 dI dI dI) c5))]
      obtain ⟨rg32, q33, h1⟩ := bindS h1
      obtain ⟨c44, q45, h1⟩ := bindS h1
      refine wp_forF (fun (s_ : (List (Int × Int × Int))) => [.da (dI v_high), .da (dI v_wide), .da (dS v_way), .rf l_1, .da (dI v_row4), .da (dI t30), .un]) (fun (s_ : (List (Int × Int × Int))) => [(l_1, .ls (List.map (d3 dI dI dI) s_))]) (src_R1 (j := 6) (ea_cons (ev_var (i := 1) rfl) ea_nil) q33) q45 (.cons .rfl (.cons .rfl (.cons .rfl (.cons .rfl (.cons .rfl (.cons .rfl (.cons .un Wks.nil))))))) rfl (fun _ => True.intro) ?_ ?_
      · rintro lo2 c35 v_step34 s_ hx2 h2 D2 he2 hn2 hct2
        show Wp _ _ _ [.da (dI v_high), .da (dI v_wide), .da (dS v_way), .rf l_1, .da (dI v_row4), .da (dI t30), .da (dI v_step34)] [(l_1, .ls (List.map (d3 dI dI dI) c35))]
        obtain ⟨t40, q41, h2⟩ := bindS h2
        obtain ⟨u42, q43, h2⟩ := bindS h2
        refine wp_expr (ev_bm (ev_rf (i := 3) rfl) (j := 0) rfl (ea_cons (show Ev _ _ _ _ (.da ((d3 dI dI dI) (v_row4, t40, t30))) _ from ev_tup (dl := [dI v_row4, dI t40, dI t30]) (ea_cons (ev_var (i := 4) rfl) (ea_cons (ev_op (show Ev _ _ _ _ (.da ((dL dI) ([v_step34, ((v_wide - (1 : Int)) - v_step34)] : (List Int)))) _ from ev_lst (dl := [dI v_step34, dI ((v_wide - (1 : Int)) - v_step34)]) (ea_cons (ev_var (i := 6) rfl) (ea_cons (ev_op (ev_op (ev_var (i := 1) rfl) (ev_int (i := 1)) rr_i) (ev_var (i := 6) rfl) rr_i) ea_nil)) (Nat.le_of_ble_eq_true rfl)) (ev_cb (ea_cons (ev_op (ev_var (i := 5) rfl) (ev_un (ev_int (i := 1)) ru_neg) rr_eqI) ea_nil) rc_intB) (rr_ixL (f := dI) q41)) (ea_cons (ev_var (i := 5) rfl) ea_nil))) (Nat.le_of_ble_eq_true rfl)) ea_nil) (rm_app (f := (d3 dI dI dI)) 0 rfl q43)) ?_
        show Wp _ _ _ [.da (dI v_high), .da (dI v_wide), .da (dS v_way), .rf l_1, .da (dI v_row4), .da (dI t30), .da (dI v_step34)] [(l_1, .ls (List.map (d3 dI dI dI) (c35 ++ [(v_row4, t40, t30)])))]
        cases h2
        exact wp_next fun σ H a => hn2 σ H (at_weak (.cons .rfl (.cons .rfl (.cons .rfl (.cons .rfl (.cons .rfl (.cons .rfl (.cons .un Wks.nil))))))) a)
      · show Wp _ _ _ [.da (dI v_high), .da (dI v_wide), .da (dS v_way), .rf l_1, .da (dI v_row4), .da (dI t30), .un] [(l_1, .ls (List.map (d3 dI dI dI) c44))]
        cases h1
        exact wp_next fun σ H a => hn1 σ H (at_weak (.cons .rfl (.cons .rfl (.cons .rfl (.cons .rfl (.cons .un (.cons .un (.cons .un Wks.nil))))))) a)
    · show Wp _ _ _ [.da (dI v_high), .da (dI v_wide), .da (dS v_way), .rf l_1, .un, .un, .un] [(l_1, .ls (List.map (d3 dI dI dI) c46))]
      refine wp_frz (i := 3) (j := 0) (l := l_1) rfl rfl nk_l_1 ?_
      show Wp _ _ _ [.da (dI v_high), .da (dI v_wide), .da (dS v_way), .da ((dL (d3 dI dI dI)) c46), .un, .un, .un] []
      have e0_ := Option.some.inj h0
      subst e0_
      exact wp_retS (ev_var (i := 3) rfl) hfin ⟨rfl, rfl⟩ (List.nil_sublist _)
end K83
set_option maxHeartbeats 2000000
namespace K83
open PySem PySem.Spec PyProof.Rows L2 Evl FC
theorem ok_m_law_pieces {P : Program} {w : World} {K : PySem.W.Frag} {mg : Str → Option Value} {base : Heap} {f : Addr} {fd : FuncData} (FF : Fun K "_law_pieces" "_law_pieces" sm_law_pieces f fd) (n_range : mg "range" = none) (n_sum : mg "sum" = none) : FnOk P w K mg base CX0 1 f fd ["rest", "shares", "spot", "high", "wide"] (spOf K (pf_m_law_pieces)) := by
  refine ok_of (N := N_m_law_pieces) FF sc_m_law_pieces (fun as m R hG => ?_) (fun cdv A outer s H E hr => ?_)
  · obtain ⟨v_rest, v_shares, v_spot, v_high, v_wide, r_, _, rfl, _⟩ := hG
    rfl
  · have nd : (N_m_law_pieces : List Str).Nodup := sc_m_law_pieces.nd
    refine ⟨_, (pss_cons (ps_asg (pv 2) (pg_tup rfl (pgs_cons (pg_name (i := 5) nd rfl (Or.inl rfl)) (pgs_cons (pg_name (i := 6) nd rfl (Or.inl rfl)) (pgs_cons (pg_name (i := 7) nd rfl (Or.inl rfl)) pgs_nil)))))
      (pss_cons (ps_set (i := 8) nd rfl (Or.inl rfl) (pe_lst pa_nil))
      (pss_cons (ps_set (i := 9) nd rfl (Or.inl rfl) (pe_callB (kCa (r := rSum) (K := K) (cr_sum rfl) rfl) (by rfl) n_sum (by decide +kernel) (pa_cons (pe_lc (own := [("share", 15)]) (g := gName 15) (tt := tYes) rfl nd (kPi (r := fun K => iList K _) (K := K) (pi_list (pv 1)) rfl) (blkOk_by (own := [("share", 15)]) (N := N_m_law_pieces) (sc := (defScope sm_law_pieces)) (by decide +kernel)) (fun _ _ _ _ _ => (pg_name (i := 15) nd rfl (by first | exact Or.inl rfl | exact Or.inr rfl))) (fun _ _ _ _ _ => pts_nil) (fun _ _ _ _ _ => (pe_ix (kIx (r := rIxT) (K := K) ix_tup rfl) (pv 15) pe_int (fun _ _ => rfl)))) pa_nil)))
      (pss_cons (ps_for PassesOwn.never rfl (kPi (r := fun K => iList K _) (K := K) (pi_list (pv 1)) rfl) (pg_tup rfl (pgs_cons (pg_name (i := 10) nd rfl (by first | exact Or.inl rfl | exact Or.inr rfl)) (pgs_cons (pg_name (i := 11) nd rfl (by first | exact Or.inl rfl | exact Or.inr rfl)) (pgs_cons (pg_name (i := 12) nd rfl (by first | exact Or.inl rfl | exact Or.inr rfl)) pgs_nil))))
      (pss_cons (ps_set (i := 13) nd rfl (Or.inl rfl) (pe_tup (pa_cons (pe_op op_add (pv 5) (pv 11)) (pa_cons (pe_op op_add (pv 6) (pe_op op_mulA (pv 7) (pv 10))) pa_nil))))
      (Evl.pss_cut (ps_if (PW.pt (pw_and (pt_cmpR op_lt (pe_ix (kIx (r := rIxT) (K := K) ix_tup rfl) (pv 13) pe_int (fun _ _ => rfl)) (pv 3) (nomark _)) (pw_and1 (pt_cmpR op_in_rng (pe_ix (kIx (r := rIxT) (K := K) ix_tup rfl) (pv 13) pe_int (fun _ _ => rfl)) (pe_callTy cr_range1 (by rfl) n_range (by decide +kernel) (pa_cons (pv 4) pa_nil)) (by rfl))))) (pss_cons (ps_expr (pe_bm PySem.F.plainAttrs_list PySem.F.slot_list_append PySem.F.type_list_append mt_append (pv 8) (pa_cons (pe_op (kOp (r := fun K => rCatA K) (K := K) op_catA rfl) (pv 13) (pe_tup (pa_cons (pe_op op_divA (pe_op op_mulA (pv 0) (pv 12)) (pv 9)) pa_nil))) pa_nil)))
      pss_nil) pss_nil)
      pss_nil)))
      (pss_cons (ps_if (pt_cmpR (kOp (r := rEqP) (K := K) (op_eqP hr.units) rfl) (pv 8) (pe_lst pa_nil) (nomark _)) (pss_cons (ps_ret (pv 8)) pss_nil) pss_nil)
      (pss_cons (ps_set (i := 14) nd rfl (Or.inl rfl) (pe_op op_sub (pv 0) (pe_callB (kCa (r := rSum) (K := K) (cr_sum rfl) rfl) (by rfl) n_sum (by decide +kernel) (pa_cons (pe_lc (own := [("piece", 16)]) (g := gName 16) (tt := tYes) rfl nd (kPi (r := fun K => iList K _) (K := K) (pi_list (pv 8)) rfl) (blkOk_by (own := [("piece", 16)]) (N := N_m_law_pieces) (sc := (defScope sm_law_pieces)) (by decide +kernel)) (fun _ _ _ _ _ => (pg_name (i := 16) nd rfl (by first | exact Or.inl rfl | exact Or.inr rfl))) (fun _ _ _ _ _ => pts_nil) (fun _ _ _ _ _ => (pe_ix (kIx (r := rIxT) (K := K) ix_tup rfl) (pv 16) pe_int (fun _ _ => rfl)))) pa_nil))))
      (pss_cons (ps_ret (pe_op op_cat (pe_lst (pa_cons (pe_op (kOp (r := fun K => rCatA K) (K := K) op_catA rfl) (pe_slice (kSl (r := rSlA) (K := K) sl_tupA rfl) (pe_ix (kIx (r := rIxL) (K := K) ix_list rfl) (pv 8) pe_int (fun _ _ => rfl)) po_none (po_some pe_int)) (pe_tup (pa_cons (pe_op op_add (pe_ix (kIx (r := rIxT) (K := K) ix_tup rfl) (pe_ix (kIx (r := rIxL) (K := K) ix_list rfl) (pv 8) pe_int (fun _ _ => rfl)) pe_int (fun _ _ => rfl)) (pv 14)) pa_nil))) pa_nil)) (pe_slice (kSl (r := rSlL) (K := K) sl_list rfl) (pv 8) (po_some pe_int) po_none))) pss_nil))))))), ?_⟩
    rintro as m R ⟨v_rest, v_shares, v_spot, v_high, v_wide, r_, h0, rfl, rfl, rfl⟩ F D rfl hk hfin hnx
    unfold m_law_pieces at h0
    show Wp _ _ _ [.da (dI v_rest), .da ((dL (d3 dI dI dI)) v_shares), .da ((d3 dI dI dI) v_spot), .da (dI v_high), .da (dI v_wide), .un, .un, .un, .un, .un, .un, .un, .un, .un, .un, .un, .un] []
    refine wp_unp3 (f := dI) (g := dI) (h := dI) (i := 5) (j := 6) (l := 7) (ev_var (i := 2) rfl) ?_
    show Wp _ _ _ [.da (dI v_rest), .da ((dL (d3 dI dI dI)) v_shares), .da ((d3 dI dI dI) v_spot), .da (dI v_high), .da (dI v_wide), .da (dI (v_spot).1), .da (dI (v_spot).2.1), .da (dI (v_spot).2.2), .un, .un, .un, .un, .un, .un, .un, .un, .un] []
    refine wp_asgN (i := 8) (show EvN _ _ _ _ (.ls (List.map (d3 dI dI dI) ([] : (List (Int × Int × Int))))) _ from en_lst (dl := []) ea_nil (Nat.le_of_ble_eq_true rfl)) (fun l_1 nk_l_1 => ?_) rfl
    show Wp _ _ _ [.da (dI v_rest), .da ((dL (d3 dI dI dI)) v_shares), .da ((d3 dI dI dI) v_spot), .da (dI v_high), .da (dI v_wide), .da (dI (v_spot).1), .da (dI (v_spot).2.1), .da (dI (v_spot).2.2), .rf l_1, .un, .un, .un, .un, .un, .un, .un, .un] [(l_1, .ls (List.map (d3 dI dI dI) ([] : (List (Int × Int × Int)))))]
    obtain ⟨u3, q4, h0⟩ := bindS h0
    obtain ⟨v_total5, q6, h0⟩ := bindS h0
    refine wp_asg (i := 9) (ev_eq (f := dI) (ev_cb (ea_cons (lc_end (lc_map (f2 := dI) (step := fun x => some ((fun (v_share2 : (Int × Int × Int)) => (v_share2).2.2) x)) (src_L (f := (d3 dI dI dI)) (j := 15) (ev_var (i := 1) rfl)) (by decide) (fun _ => True.intro) q4 (mapO_pure _) (by rintro v_share2 y_ hx_ h_; cases h_; exact (ev_op (ev_var (i := 15) rfl) (ev_int (i := 2)) (rr_ixT (dl := [dI (v_share2).1, dI (v_share2).2.1, dI (v_share2).2.2]) rfl))))) ea_nil) rc_sum) (Option.some.inj q6)) ?_
    show Wp _ _ _ [.da (dI v_rest), .da ((dL (d3 dI dI dI)) v_shares), .da ((d3 dI dI dI) v_spot), .da (dI v_high), .da (dI v_wide), .da (dI (v_spot).1), .da (dI (v_spot).2.1), .da (dI (v_spot).2.2), .rf l_1, .da (dI v_total5), .un, .un, .un, .un, .un, .un, .un] [(l_1, .ls (List.map (d3 dI dI dI) ([] : (List (Int × Int × Int)))))]
    obtain ⟨c55, q69, h0⟩ := bindS h0
    refine wp_forF (fun (s_ : (List (Int × Int × Int))) => [.da (dI v_rest), .da ((dL (d3 dI dI dI)) v_shares), .da ((d3 dI dI dI) v_spot), .da (dI v_high), .da (dI v_wide), .da (dI (v_spot).1), .da (dI (v_spot).2.1), .da (dI (v_spot).2.2), .rf l_1, .da (dI v_total5), .un, .un, .un, .un, .un, .un, .un]) (fun (s_ : (List (Int × Int × Int))) => [(l_1, .ls (List.map (d3 dI dI dI) s_))]) (src_L3 (f := dI) (f2 := dI) (f3 := dI) (i := 10) (j := 11) (k := 12) (ev_var (i := 1) rfl)) q69 (.cons .rfl (.cons .rfl (.cons .rfl (.cons .rfl (.cons .rfl (.cons .rfl (.cons .rfl (.cons .rfl (.cons .rfl (.cons .rfl (.cons .un (.cons .un (.cons .un (.cons .un (.cons .un (.cons .un (.cons .un Wks.nil))))))))))))))))) rfl (fun _ => True.intro) ?_ ?_
    · rintro lo1 c10 ⟨v_across7, v_down8, v_more9⟩ s_ hx1 h1 D1 he1 hn1 hct1
      show Wp _ _ _ [.da (dI v_rest), .da ((dL (d3 dI dI dI)) v_shares), .da ((d3 dI dI dI) v_spot), .da (dI v_high), .da (dI v_wide), .da (dI (v_spot).1), .da (dI (v_spot).2.1), .da (dI (v_spot).2.2), .rf l_1, .da (dI v_total5), .da (dI v_across7), .da (dI v_down8), .da (dI v_more9), .un, .un, .un, .un] [(l_1, .ls (List.map (d3 dI dI dI) c10))]
      obtain ⟨t33, q34, h1⟩ := bindS h1
      obtain ⟨v_there35, q36, h1⟩ := bindS h1
      refine wp_asg (i := 13) (ev_eq (f := (dP dI dI)) (show Ev _ _ _ _ (.da ((dP dI dI) (((v_spot).1 + v_down8), ((v_spot).2.1 + t33)))) _ from ev_tup (dl := [dI ((v_spot).1 + v_down8), dI ((v_spot).2.1 + t33)]) (ea_cons (ev_op (ev_var (i := 5) rfl) (ev_var (i := 11) rfl) rr_i) (ea_cons (ev_op (ev_var (i := 6) rfl) (ev_op (ev_var (i := 7) rfl) (ev_var (i := 10) rfl) (rr_mul q34)) rr_i) ea_nil)) (Nat.le_of_ble_eq_true rfl)) (Option.some.inj q36)) ?_
      show Wp _ _ _ [.da (dI v_rest), .da ((dL (d3 dI dI dI)) v_shares), .da ((d3 dI dI dI) v_spot), .da (dI v_high), .da (dI v_wide), .da (dI (v_spot).1), .da (dI (v_spot).2.1), .da (dI (v_spot).2.2), .rf l_1, .da (dI v_total5), .da (dI v_across7), .da (dI v_down8), .da (dI v_more9), .da ((dP dI dI) v_there35), .un, .un, .un] [(l_1, .ls (List.map (d3 dI dI dI) c10))]
      obtain ⟨c45, q54, h1⟩ := bindS h1
      refine wp_cutIf (ds' := [.da (dI v_rest), .da ((dL (d3 dI dI dI)) v_shares), .da ((d3 dI dI dI) v_spot), .da (dI v_high), .da (dI v_wide), .da (dI (v_spot).1), .da (dI (v_spot).2.1), .da (dI (v_spot).2.2), .rf l_1, .da (dI v_total5), .da (dI v_across7), .da (dI v_down8), .da (dI v_more9), .da ((dP dI dI) v_there35), .un, .un, .un]) (m' := [(l_1, .ls (List.map (d3 dI dI dI) c45))]) ?_ (et_andP (et_test (ev_op (ev_op (ev_var (i := 13) rfl) (ev_int (i := 0)) (rr_ixT (dl := [dI (v_there35).1, dI (v_there35).2]) rfl)) (ev_var (i := 3) rfl) (rr_b (f := fun i j => decide (i < j))))) (et_test (ev_inRg (ev_op (ev_var (i := 13) rfl) (ev_int (i := 1)) (rr_ixT (dl := [dI (v_there35).1, dI (v_there35).2]) rfl)) (ev_var (i := 4) rfl)))) (fun hc => ?_) (fun hc => ?_)
      · cases h1
        exact wp_next fun σ H a => hn1 σ H (at_weak (.cons .rfl (.cons .rfl (.cons .rfl (.cons .rfl (.cons .rfl (.cons .rfl (.cons .rfl (.cons .rfl (.cons .rfl (.cons .rfl (.cons .un (.cons .un (.cons .un (.cons .un (.cons .un (.cons .un (.cons .un Wks.nil))))))))))))))))) a)
      · have h102 := condT hc q54
        obtain ⟨t46, q47, h102⟩ := bindS h102
        obtain ⟨t48, q49, h102⟩ := bindS h102
        obtain ⟨u50, q51, h102⟩ := bindS h102
        obtain ⟨u52, q53, h102⟩ := bindS h102
        refine wp_expr (ev_bm (ev_rf (i := 8) rfl) (j := 0) rfl (ea_cons (show Ev _ _ _ _ (.da (d3 dI dI dI ((v_there35).1, (v_there35).2, t48))) _ from ev_op (show Ev _ _ _ _ (.da (dU dI ([(v_there35).1, (v_there35).2] : List Int))) _ from (ev_var (i := 13) rfl)) (show Ev _ _ _ _ (.da ((dU dI) [t48])) _ from ev_tup (dl := [dI t48]) (ea_cons (ev_op (ev_op (ev_var (i := 0) rfl) (ev_var (i := 12) rfl) (rr_mul q47)) (ev_var (i := 9) rfl) (rr_div q49)) ea_nil) (Nat.le_of_ble_eq_true rfl)) (rr_catU (f := dI) (xs := ([(v_there35).1, (v_there35).2] : List Int)) (ys := ([t48] : List Int)) q51)) ea_nil) (rm_app (f := (d3 dI dI dI)) 0 rfl q53)) ?_
        show Wp _ _ _ [.da (dI v_rest), .da ((dL (d3 dI dI dI)) v_shares), .da ((d3 dI dI dI) v_spot), .da (dI v_high), .da (dI v_wide), .da (dI (v_spot).1), .da (dI (v_spot).2.1), .da (dI (v_spot).2.2), .rf l_1, .da (dI v_total5), .da (dI v_across7), .da (dI v_down8), .da (dI v_more9), .da ((dP dI dI) v_there35), .un, .un, .un] [(l_1, .ls (List.map (d3 dI dI dI) (c10 ++ [((v_there35).1, (v_there35).2, t48)])))]
        cases h102
        exact wp_nextW (.cons .rfl (.cons .rfl (.cons .rfl (.cons .rfl (.cons .rfl (.cons .rfl (.cons .rfl (.cons .rfl (.cons .rfl (.cons .rfl (.cons .rfl (.cons .rfl (.cons .rfl (.cons .rfl (.cons .un (.cons .un (.cons .un Wks.nil))))))))))))))))) rfl
      · have h102 := condF hc q54
        cases h102
        exact wp_nextW (.cons .rfl (.cons .rfl (.cons .rfl (.cons .rfl (.cons .rfl (.cons .rfl (.cons .rfl (.cons .rfl (.cons .rfl (.cons .rfl (.cons .rfl (.cons .rfl (.cons .rfl (.cons .rfl (.cons .un (.cons .un (.cons .un Wks.nil))))))))))))))))) rfl
    · show Wp _ _ _ [.da (dI v_rest), .da ((dL (d3 dI dI dI)) v_shares), .da ((d3 dI dI dI) v_spot), .da (dI v_high), .da (dI v_wide), .da (dI (v_spot).1), .da (dI (v_spot).2.1), .da (dI (v_spot).2.2), .rf l_1, .da (dI v_total5), .un, .un, .un, .un, .un, .un, .un] [(l_1, .ls (List.map (d3 dI dI dI) c55))]
      refine wp_if (et_test (ev_op (ev_rf (i := 8) rfl) (show Ev _ _ _ _ (.da ((dL (d3 dI dI dI)) ([] : (List (Int × Int × Int))))) _ from ev_lst (dl := []) ea_nil (Nat.le_of_ble_eq_true rfl)) (rr_eqC (f := (d3 dI dI dI)) (by decide) 0 rfl))) (fun hc => ?_) (fun hc => ?_)
      · have h0 := condT hc h0
        refine wp_frz (i := 8) (j := 0) (l := l_1) rfl rfl nk_l_1 ?_
        show Wp _ _ _ [.da (dI v_rest), .da ((dL (d3 dI dI dI)) v_shares), .da ((d3 dI dI dI) v_spot), .da (dI v_high), .da (dI v_wide), .da (dI (v_spot).1), .da (dI (v_spot).2.1), .da (dI (v_spot).2.2), .da ((dL (d3 dI dI dI)) c55), .da (dI v_total5), .un, .un, .un, .un, .un, .un, .un] []
        have e0_ := Option.some.inj h0
        subst e0_
        exact wp_retS (ev_var (i := 8) rfl) hfin ⟨rfl, rfl⟩ (List.nil_sublist _)
      · have h0 := condF hc h0
        refine wp_next ?_
        obtain ⟨u57, q58, h0⟩ := bindS h0
        obtain ⟨v_remains59, q60, h0⟩ := bindS h0
        refine wp_asg (i := 14) (ev_eq (f := dI) (ev_op (ev_var (i := 0) rfl) (ev_cb (ea_cons (lc_end (lc_map (f2 := dI) (step := fun x => some ((fun (v_piece56 : (Int × Int × Int)) => (v_piece56).2.2) x)) (src_C (f := (d3 dI dI dI)) (j := 16) 0 (ev_rf (i := 8) rfl) rfl) (by decide) (fun _ => rfl) q58 (mapO_pure _) (by rintro v_piece56 y_ hx_ h_; cases h_; exact (ev_op (ev_var (i := 16) rfl) (ev_int (i := 2)) (rr_ixT (dl := [dI (v_piece56).1, dI (v_piece56).2.1, dI (v_piece56).2.2]) rfl))))) ea_nil) rc_sum) rr_i) (Option.some.inj q60)) ?_
        show Wp _ _ _ [.da (dI v_rest), .da ((dL (d3 dI dI dI)) v_shares), .da ((d3 dI dI dI) v_spot), .da (dI v_high), .da (dI v_wide), .da (dI (v_spot).1), .da (dI (v_spot).2.1), .da (dI (v_spot).2.2), .rf l_1, .da (dI v_total5), .un, .un, .un, .un, .da (dI v_remains59), .un, .un] [(l_1, .ls (List.map (d3 dI dI dI) c55))]
        obtain ⟨t61, q62, h0⟩ := bindS h0
        obtain ⟨t63, q64, h0⟩ := bindS h0
        obtain ⟨u65, q66, h0⟩ := bindS h0
        obtain ⟨u67, q68, h0⟩ := bindS h0
        have e0_ := Option.some.inj h0
        subst e0_
        exact wp_retS (ev_op (show Ev _ _ _ _ (.da ((dL (d3 dI dI dI)) ([((((t61).1, (t61).2.1)).1, (((t61).1, (t61).2.1)).2, ((t63).2.2 + v_remains59))] : (List (Int × Int × Int))))) _ from ev_lst (dl := [(d3 dI dI dI) ((((t61).1, (t61).2.1)).1, (((t61).1, (t61).2.1)).2, ((t63).2.2 + v_remains59))]) (ea_cons (show Ev _ _ _ _ (.da (d3 dI dI dI ((((t61).1, (t61).2.1)).1, (((t61).1, (t61).2.1)).2, ((t63).2.2 + v_remains59)))) _ from ev_op (show Ev _ _ _ _ (.da (dU dI ([(((t61).1, (t61).2.1)).1, (((t61).1, (t61).2.1)).2] : List Int))) _ from (show Ev _ _ _ _ (.da (dP dI dI ((t61).1, (t61).2.1))) _ from ev_sl (show Ev _ _ _ _ (.da (dU dI ([(t61).1, (t61).2.1, (t61).2.2] : List Int))) _ from (ev_op (ev_rf (i := 8) rfl) (ev_int (i := 0)) (rr_ixC (f := (d3 dI dI dI)) 0 rfl q62))) eo_none (eo_some (ev_int (i := 2))) (rs_U (f := dI) (xs := ([(t61).1, (t61).2.1, (t61).2.2] : List Int))))) (show Ev _ _ _ _ (.da ((dU dI) [((t63).2.2 + v_remains59)])) _ from ev_tup (dl := [dI ((t63).2.2 + v_remains59)]) (ea_cons (ev_op (ev_op (ev_op (ev_rf (i := 8) rfl) (ev_int (i := 0)) (rr_ixC (f := (d3 dI dI dI)) 0 rfl q64)) (ev_int (i := 2)) (rr_ixT (dl := [dI (t63).1, dI (t63).2.1, dI (t63).2.2]) rfl)) (ev_var (i := 14) rfl) rr_i) ea_nil) (Nat.le_of_ble_eq_true rfl)) (rr_catU (f := dI) (xs := ([(((t61).1, (t61).2.1)).1, (((t61).1, (t61).2.1)).2] : List Int)) (ys := ([((t63).2.2 + v_remains59)] : List Int)) q66)) ea_nil) (Nat.le_of_ble_eq_true rfl)) (ev_sl (ev_rf (i := 8) rfl) (eo_some (ev_int (i := 1))) eo_none (rs_C (f := (d3 dI dI dI)) 0 rfl)) (rr_cat q68)) hfin ⟨rfl, rfl⟩ (List.nil_sublist _)
end K83
set_option maxHeartbeats 2000000
namespace K83
open PySem PySem.Spec PyProof.Rows L2 Evl FC
theorem ok_m_law_place_right {P : Program} {w : World} {K : PySem.W.Frag} {mg : Str → Option Value} {base : Heap} {f : Addr} {fd : FuncData} (FF : Fun K "_law_place_right" "_law_place_right" sm_law_place_right f fd) {f_m_law_pieces : Addr} {fd_m_law_pieces : FuncData} (G_m_law_pieces : FnOk P w K mg base CX0 1 f_m_law_pieces fd_m_law_pieces ["rest", "shares", "spot", "high", "wide"] (spOf K (pf_m_law_pieces))) (g_m_law_pieces : mg "_law_pieces" = some (.ref f_m_law_pieces)) (k_m_law_pieces : PySem.W.keepIn K (.ref f_m_law_pieces) = true) (b_m_law_pieces : Binds K fd_m_law_pieces ["rest", "shares", "spot", "high", "wide"] []) {f_m_law_turns : Addr} {fd_m_law_turns : FuncData} (G_m_law_turns : FnOk P w K mg base CX0 1 f_m_law_turns fd_m_law_turns ["high", "wide", "way"] (spOf K (pf_m_law_turns))) (g_m_law_turns : mg "_law_turns" = some (.ref f_m_law_turns)) (k_m_law_turns : PySem.W.keepIn K (.ref f_m_law_turns) = true) (b_m_law_turns : Binds K fd_m_law_turns ["high", "wide", "way"] []) (n_len : mg "len" = none) (n_sum : mg "sum" = none) : FnOk P w K mg base CX0 2 f fd ["picture", "palette", "shares", "way", "numbers", "wanted", "place"] (spOf K (pf_m_law_place_right)) := by
  refine ok_of (N := N_m_law_place_right) FF sc_m_law_place_right (fun as m R hG => ?_) (fun cdv A outer s H E hr => ?_)
  · obtain ⟨v_picture, v_palette, v_shares, v_way, v_numbers, v_wanted, v_place, r_, _, rfl, _⟩ := hG
    rfl
  · have nd : (N_m_law_place_right : List Str).Nodup := sc_m_law_place_right.nd
    refine ⟨_, (pss_cons (ps_asg (pe_tup (pa_cons (pe_callB (kCa (r := rLenA) (K := K) call_len_seq rfl) (by rfl) n_len (by decide +kernel) (pa_cons (pv 0) pa_nil)) (pa_cons (pe_callB (kCa (r := rLenA) (K := K) call_len_seq rfl) (by rfl) n_len (by decide +kernel) (pa_cons (pe_ix (kIx (r := rIxL) (K := K) ix_list rfl) (pv 0) pe_int (fun _ _ => rfl)) pa_nil)) pa_nil))) (pg_tup rfl (pgs_cons (pg_name (i := 7) nd rfl (Or.inl rfl)) (pgs_cons (pg_name (i := 8) nd rfl (Or.inr rfl)) pgs_nil))))
      (pss_cons (ps_setLc (i := 10) (own := [("row", 9)]) (g := gName 9) (tt := tYes) rfl nd rfl rfl (sw_true rfl rfl rfl (by decide +kernel)) (kPi (r := fun K => iList K _) (K := K) (pi_list (pv 0)) rfl) (blkOk_by (own := [("row", 9)]) (N := N_m_law_place_right) (sc := (defScope sm_law_place_right)) (by decide +kernel)) (fun _ _ _ _ _ => (pg_name (i := 9) nd rfl (by first | exact Or.inl rfl | exact Or.inr rfl))) (fun _ _ _ _ _ => pts_nil) (fun _ _ _ _ _ => (pe_op op_rep (pe_lst (pa_cons pe_int pa_nil)) (pv 8))))
      (pss_cons (ps_set (i := 11) nd rfl (Or.inl rfl) pe_int)
      (pss_cons (ps_for PassesOwn.never rfl (kPi (r := fun K => iList K _) (K := K) (pi_list (pe_call G_m_law_turns (hr.mono (by decide)) (by rfl) g_m_law_turns k_m_law_turns b_m_law_turns .nil pass0 (pa_cons (pv 7) (pa_cons (pv 8) (pa_cons (pv 3) pa_nil))))) rfl) (pg_tup rfl (pgs_cons (pg_name (i := 9) nd rfl (by first | exact Or.inl rfl | exact Or.inr rfl)) (pgs_cons (pg_name (i := 12) nd rfl (by first | exact Or.inl rfl | exact Or.inr rfl)) (pgs_cons (pg_name (i := 13) nd rfl (by first | exact Or.inl rfl | exact Or.inr rfl)) pgs_nil))))
      (pss_cons (ps_set (i := 14) nd rfl (Or.inl rfl) (pe_ix (kIx (r := rIxT) (K := K) ix_tup rfl) (pe_ix (kIx (r := rIxL) (K := K) ix_list rfl) (pe_ix (kIx (r := rIxL) (K := K) ix_list rfl) (pv 5) (pv 9) (fun _ _ => rfl)) (pv 12) (fun _ _ => rfl)) (pv 6) (fun _ _ => rfl)))
      (pss_cons (ps_if (pt_cmpR op_ne (pe_op op_sub (pv 14) (pe_ix (kIx (r := rIxT) (K := K) ix_tup rfl) (pe_ix (kIx (r := rIxL) (K := K) ix_list rfl) (pe_ix (kIx (r := rIxL) (K := K) ix_list rfl) (pv 0) (pv 9) (fun _ _ => rfl)) (pv 12) (fun _ _ => rfl)) (pv 6) (fun _ _ => rfl))) (pe_ix (kIx (r := rIxL) (K := K) ix_list rfl) (pe_ix (kIx (r := rIxL) (K := K) ix_list rfl) (pv 10) (pv 9) (fun _ _ => rfl)) (pv 12) (fun _ _ => rfl)) (nomark _)) (pss_cons (ps_ret pe_non) pss_nil) pss_nil)
      (pss_cons (ps_set (i := 15) nd rfl (Or.inl rfl) (pe_op op_sub (pv 14) (pe_ix (kIx (r := rIxT) (K := K) ix_tup rfl) (pe_ix (kIx (r := rIxL) (K := K) ix_list rfl) (pv 1) (pe_ix (kIx (r := rIxL) (K := K) ix_list rfl) (pe_ix (kIx (r := rIxL) (K := K) ix_list rfl) (pv 4) (pv 9) (fun _ _ => rfl)) (pv 12) (fun _ _ => rfl)) (fun _ _ => rfl)) (pv 6) (fun _ _ => rfl))))
      (pss_cons (ps_set (i := 16) nd rfl (Or.inl rfl) (pe_call G_m_law_pieces (hr.mono (by decide)) (by rfl) g_m_law_pieces k_m_law_pieces b_m_law_pieces .nil pass0 (pa_cons (pv 15) (pa_cons (pv 2) (pa_cons (pe_tup (pa_cons (pv 9) (pa_cons (pv 12) (pa_cons (pv 13) pa_nil)))) (pa_cons (pv 7) (pa_cons (pv 8) pa_nil)))))))
      (pss_cons (ps_for PassesOwn.never rfl (kPi (r := fun K => iList K _) (K := K) (pi_list (pv 16)) rfl) (pg_tup rfl (pgs_cons (pg_name (i := 17) nd rfl (by first | exact Or.inl rfl | exact Or.inr rfl)) (pgs_cons (pg_name (i := 18) nd rfl (by first | exact Or.inl rfl | exact Or.inr rfl)) (pgs_cons (pg_name (i := 19) nd rfl (by first | exact Or.inl rfl | exact Or.inr rfl)) pgs_nil))))
      (pss_cons (ps_asg (pe_op op_add (pe_ix (kIx (r := rIxL) (K := K) ix_list rfl) (pe_ix (kIx (r := rIxL) (K := K) ix_list rfl) (pv 10) (pv 17) (fun _ _ => rfl)) (pv 18) (fun _ _ => rfl)) (pv 19)) (pg_sub (pe_ix (kIx (r := rIxL) (K := K) ix_list rfl) (pv 10) (pv 17) (fun _ _ => rfl)) (pv 18) set_list))
      pss_nil))
      (Evl.pss_cut (ps_if (pt_cmpR (kOp (r := rEqP) (K := K) (op_eqP hr.units) rfl) (pv 16) (pe_lst pa_nil) (nomark _)) (pss_cons (ps_set (i := 11) nd rfl (Or.inl rfl) (pe_op op_add (pv 11) (pv 15)))
      pss_nil) (pss_cons (ps_if (pt_cmpR op_ne (pe_callB (kCa (r := rSum) (K := K) (cr_sum rfl) rfl) (by rfl) n_sum (by decide +kernel) (pa_cons (pe_lc (own := [("piece", 19)]) (g := gName 19) (tt := tYes) rfl nd (kPi (r := fun K => iList K _) (K := K) (pi_list (pv 16)) rfl) (blkOk_by (own := [("piece", 19)]) (N := N_m_law_place_right) (sc := (defScope sm_law_place_right)) (by decide +kernel)) (fun _ _ _ _ _ => (pg_name (i := 19) nd rfl (by first | exact Or.inl rfl | exact Or.inr rfl))) (fun _ _ _ _ _ => pts_nil) (fun _ _ _ _ _ => (pe_ix (kIx (r := rIxT) (K := K) ix_tup rfl) (pv 19) pe_int (fun _ _ => rfl)))) pa_nil)) (pv 15) (nomark _)) (pss_cons (ps_ret pe_non) pss_nil) pss_nil)
      pss_nil))
      pss_nil)))))))
      (pss_cons (ps_ret (pv 11)) pss_nil))))), ?_⟩
    rintro as m R ⟨v_picture, v_palette, v_shares, v_way, v_numbers, v_wanted, v_place, r_, h0, rfl, rfl, rfl⟩ F D rfl hk hfin hnx
    unfold m_law_place_right at h0
    show Wp _ _ _ [.da ((dL (dL (dU dI))) v_picture), .da ((dL (dU dI)) v_palette), .da ((dL (d3 dI dI dI)) v_shares), .da (dS v_way), .da ((dL (dL dI)) v_numbers), .da ((dL (dL (dU dI))) v_wanted), .da (dI v_place), .un, .un, .un, .un, .un, .un, .un, .un, .un, .un, .un, .un, .un] []
    obtain ⟨t1, q2, h0⟩ := bindS h0
    refine wp_unp2 (f := dI) (g := dI) (i := 7) (j := 8) (show Ev _ _ _ _ (.da ((dP dI dI) ((List.length v_picture : Int), (List.length t1 : Int)))) _ from ev_tup (dl := [dI (List.length v_picture : Int), dI (List.length t1 : Int)]) (ea_cons (ev_cb (ea_cons (ev_var (i := 0) rfl) ea_nil) (rc_lenL (f := (dL (dU dI))))) (ea_cons (ev_cb (ea_cons (ev_op (ev_var (i := 0) rfl) (ev_int (i := 0)) (rr_ixL (f := (dL (dU dI))) q2)) ea_nil) (rc_lenL (f := (dU dI)))) ea_nil)) (Nat.le_of_ble_eq_true rfl)) ?_
    show Wp _ _ _ [.da ((dL (dL (dU dI))) v_picture), .da ((dL (dU dI)) v_palette), .da ((dL (d3 dI dI dI)) v_shares), .da (dS v_way), .da ((dL (dL dI)) v_numbers), .da ((dL (dL (dU dI))) v_wanted), .da (dI v_place), .da (dI (((List.length v_picture : Int), (List.length t1 : Int))).1), .da (dI (((List.length v_picture : Int), (List.length t1 : Int))).2), .un, .un, .un, .un, .un, .un, .un, .un, .un, .un, .un] []
    obtain ⟨u7, q8, h0⟩ := bindS h0
    obtain ⟨o9, q10, h0⟩ := bindS h0
    refine wp_asgNest dI (i := 10) (lcNestG (f := dI) (src_L (f := (dL (dU dI))) (j := 9) (ev_var (i := 0) rfl)) (by decide) (fun _ => True.intro) q8 q10 (by rintro v_row4 y_ hx_ h_ c_; obtain ⟨t5, q6, h_⟩ := bindS h_; cases h_; exact (en_rep (f := dI) (show Ev _ _ _ _ (.da ((dL dI) ([(0 : Int)] : (List Int)))) _ from ev_lst (dl := [dI (0 : Int)]) (ea_cons (ev_int (i := 0)) ea_nil) (Nat.le_of_ble_eq_true rfl)) (ev_var (i := 8) rfl) q6))) rfl (fun l_3 ps_l_3 nk_l_3 nks_l_3 => ?_)
    show Wp _ _ _ [.da ((dL (dL (dU dI))) v_picture), .da ((dL (dU dI)) v_palette), .da ((dL (d3 dI dI dI)) v_shares), .da (dS v_way), .da ((dL (dL dI)) v_numbers), .da ((dL (dL (dU dI))) v_wanted), .da (dI v_place), .da (dI (((List.length v_picture : Int), (List.length t1 : Int))).1), .da (dI (((List.length v_picture : Int), (List.length t1 : Int))).2), .un, .rf l_3, .un, .un, .un, .un, .un, .un, .un, .un, .un] (([] : M) ++ nest dI l_3 ps_l_3 o9)
    refine wp_asg (i := 11) (ev_int (i := 0)) ?_
    show Wp _ _ _ [.da ((dL (dL (dU dI))) v_picture), .da ((dL (dU dI)) v_palette), .da ((dL (d3 dI dI dI)) v_shares), .da (dS v_way), .da ((dL (dL dI)) v_numbers), .da ((dL (dL (dU dI))) v_wanted), .da (dI v_place), .da (dI (((List.length v_picture : Int), (List.length t1 : Int))).1), .da (dI (((List.length v_picture : Int), (List.length t1 : Int))).2), .un, .rf l_3, .da (dI (0 : Int)), .un, .un, .un, .un, .un, .un, .un, .un] (([] : M) ++ nest dI l_3 ps_l_3 o9)
    obtain ⟨t11, q12, h0⟩ := bindS h0
    obtain ⟨k127, q126, h0⟩ := bindS h0
    refine wp_forC (fun (s_ : Int × (List (List Int))) => [.da ((dL (dL (dU dI))) v_picture), .da ((dL (dU dI)) v_palette), .da ((dL (d3 dI dI dI)) v_shares), .da (dS v_way), .da ((dL (dL dI)) v_numbers), .da ((dL (dL (dU dI))) v_wanted), .da (dI v_place), .da (dI (((List.length v_picture : Int), (List.length t1 : Int))).1), .da (dI (((List.length v_picture : Int), (List.length t1 : Int))).2), .un, .rf l_3, .da (dI s_.1), .un, .un, .un, .un, .un, .un, .un, .un]) (fun (s_ : Int × (List (List Int))) => (([] : M) ++ nest dI l_3 ps_l_3 s_.2)) (src_L3 (f := dI) (f2 := dI) (f3 := dI) (i := 9) (j := 12) (k := 13) (ev_call (ea_cons (ev_var (i := 7) rfl) (ea_cons (ev_var (i := 8) rfl) (ea_cons (ev_var (i := 3) rfl) ea_nil))) ⟨_, ⟨_, _, _, _, q12, rfl, rfl, rfl⟩, fun _ _ h => h⟩)) q126 (.cons .rfl (.cons .rfl (.cons .rfl (.cons .rfl (.cons .rfl (.cons .rfl (.cons .rfl (.cons .rfl (.cons .rfl (.cons .un (.cons .rfl (.cons .rfl (.cons .un (.cons .un (.cons .un (.cons .un (.cons .un (.cons .un (.cons .un (.cons .un Wks.nil)))))))))))))))))))) rfl (fun _ => True.intro) ?_ ?_
    · rintro lo1 ⟨v_lost16, c17⟩ ⟨v_row13, v_column14, v_side15⟩ c_ hx1 h1 D1 he1 hn1 hct1 hbk1 hret1
      show Wp _ _ _ [.da ((dL (dL (dU dI))) v_picture), .da ((dL (dU dI)) v_palette), .da ((dL (d3 dI dI dI)) v_shares), .da (dS v_way), .da ((dL (dL dI)) v_numbers), .da ((dL (dL (dU dI))) v_wanted), .da (dI v_place), .da (dI (((List.length v_picture : Int), (List.length t1 : Int))).1), .da (dI (((List.length v_picture : Int), (List.length t1 : Int))).2), .da (dI v_row13), .rf l_3, .da (dI v_lost16), .da (dI v_column14), .da (dI v_side15), .un, .un, .un, .un, .un, .un] (([] : M) ++ nest dI l_3 ps_l_3 c17)
      obtain ⟨t71, q72, h1⟩ := bindS h1
      obtain ⟨t73, q74, h1⟩ := bindS h1
      obtain ⟨t75, q76, h1⟩ := bindS h1
      refine wp_asg (i := 14) (ev_op (ev_op (ev_op (ev_var (i := 5) rfl) (ev_var (i := 9) rfl) (rr_ixL (f := (dL (dU dI))) q72)) (ev_var (i := 12) rfl) (rr_ixL (f := (dU dI)) q74)) (ev_var (i := 6) rfl) (rr_ixU (f := dI) q76)) ?_
      show Wp _ _ _ [.da ((dL (dL (dU dI))) v_picture), .da ((dL (dU dI)) v_palette), .da ((dL (d3 dI dI dI)) v_shares), .da (dS v_way), .da ((dL (dL dI)) v_numbers), .da ((dL (dL (dU dI))) v_wanted), .da (dI v_place), .da (dI (((List.length v_picture : Int), (List.length t1 : Int))).1), .da (dI (((List.length v_picture : Int), (List.length t1 : Int))).2), .da (dI v_row13), .rf l_3, .da (dI v_lost16), .da (dI v_column14), .da (dI v_side15), .da (dI t75), .un, .un, .un, .un, .un] (([] : M) ++ nest dI l_3 ps_l_3 c17)
      obtain ⟨t77, q78, h1⟩ := bindS h1
      obtain ⟨t79, q80, h1⟩ := bindS h1
      obtain ⟨t81, q82, h1⟩ := bindS h1
      obtain ⟨t83, q84, h1⟩ := bindS h1
      refine wp_if (et_test (ev_op (ev_op (ev_var (i := 14) rfl) (ev_op (ev_op (ev_op (ev_var (i := 0) rfl) (ev_var (i := 9) rfl) (rr_ixL (f := (dL (dU dI))) q78)) (ev_var (i := 12) rfl) (rr_ixL (f := (dU dI)) q80)) (ev_var (i := 6) rfl) (rr_ixU (f := dI) q82)) rr_i) (ev_nget (f := dI) (pre := ([] : M)) (ev_rf (i := 10) rfl) (ev_var (i := 9) rfl) (ev_var (i := 12) rfl) q84) rr_neI)) (fun hc => ?_) (fun hc => ?_)
      · have h1 := condT hc h1
        cases h1
        have g1 := ctlK_rt (hret1 _ rfl) h0
        have e0_ := Option.some.inj g1
        subst e0_
        exact wp_retS (tz := tNext) (show Ev _ _ _ _ (.da ((dO dI) none)) _ from ev_non) (fin_at hfin he1) ⟨rfl, rfl⟩ (List.nil_sublist _)
      · have h1 := condF hc h1
        refine wp_next ?_
        obtain ⟨t85, q86, h1⟩ := bindS h1
        obtain ⟨t87, q88, h1⟩ := bindS h1
        obtain ⟨t89, q90, h1⟩ := bindS h1
        obtain ⟨t91, q92, h1⟩ := bindS h1
        obtain ⟨v_rest93, q94, h1⟩ := bindS h1
        refine wp_asg (i := 15) (ev_eq (f := dI) (ev_op (ev_var (i := 14) rfl) (ev_op (ev_op (ev_var (i := 1) rfl) (ev_op (ev_op (ev_var (i := 4) rfl) (ev_var (i := 9) rfl) (rr_ixL (f := (dL dI)) q86)) (ev_var (i := 12) rfl) (rr_ixL (f := dI) q88)) (rr_ixL (f := (dU dI)) q90)) (ev_var (i := 6) rfl) (rr_ixU (f := dI) q92)) rr_i) (Option.some.inj q94)) ?_
        show Wp _ _ _ [.da ((dL (dL (dU dI))) v_picture), .da ((dL (dU dI)) v_palette), .da ((dL (d3 dI dI dI)) v_shares), .da (dS v_way), .da ((dL (dL dI)) v_numbers), .da ((dL (dL (dU dI))) v_wanted), .da (dI v_place), .da (dI (((List.length v_picture : Int), (List.length t1 : Int))).1), .da (dI (((List.length v_picture : Int), (List.length t1 : Int))).2), .da (dI v_row13), .rf l_3, .da (dI v_lost16), .da (dI v_column14), .da (dI v_side15), .da (dI t75), .da (dI v_rest93), .un, .un, .un, .un] (([] : M) ++ nest dI l_3 ps_l_3 c17)
        obtain ⟨t95, q96, h1⟩ := bindS h1
        refine wp_asg (i := 16) (ev_call (ea_cons (ev_var (i := 15) rfl) (ea_cons (ev_var (i := 2) rfl) (ea_cons (show Ev _ _ _ _ (.da ((d3 dI dI dI) (v_row13, v_column14, v_side15))) _ from ev_tup (dl := [dI v_row13, dI v_column14, dI v_side15]) (ea_cons (ev_var (i := 9) rfl) (ea_cons (ev_var (i := 12) rfl) (ea_cons (ev_var (i := 13) rfl) ea_nil))) (Nat.le_of_ble_eq_true rfl)) (ea_cons (ev_var (i := 7) rfl) (ea_cons (ev_var (i := 8) rfl) ea_nil))))) ⟨_, ⟨_, _, _, _, _, _, q96, rfl, rfl, rfl⟩, fun _ _ h => h⟩) ?_
        show Wp _ _ _ [.da ((dL (dL (dU dI))) v_picture), .da ((dL (dU dI)) v_palette), .da ((dL (d3 dI dI dI)) v_shares), .da (dS v_way), .da ((dL (dL dI)) v_numbers), .da ((dL (dL (dU dI))) v_wanted), .da (dI v_place), .da (dI (((List.length v_picture : Int), (List.length t1 : Int))).1), .da (dI (((List.length v_picture : Int), (List.length t1 : Int))).2), .da (dI v_row13), .rf l_3, .da (dI v_lost16), .da (dI v_column14), .da (dI v_side15), .da (dI t75), .da (dI v_rest93), .da ((dL (d3 dI dI dI)) t95), .un, .un, .un] (([] : M) ++ nest dI l_3 ps_l_3 c17)
        obtain ⟨c109, q123, h1⟩ := bindS h1
        refine wp_forF (fun (s_ : (List (List Int))) => [.da ((dL (dL (dU dI))) v_picture), .da ((dL (dU dI)) v_palette), .da ((dL (d3 dI dI dI)) v_shares), .da (dS v_way), .da ((dL (dL dI)) v_numbers), .da ((dL (dL (dU dI))) v_wanted), .da (dI v_place), .da (dI (((List.length v_picture : Int), (List.length t1 : Int))).1), .da (dI (((List.length v_picture : Int), (List.length t1 : Int))).2), .da (dI v_row13), .rf l_3, .da (dI v_lost16), .da (dI v_column14), .da (dI v_side15), .da (dI t75), .da (dI v_rest93), .da ((dL (d3 dI dI dI)) t95), .un, .un, .un]) (fun (s_ : (List (List Int))) => (([] : M) ++ nest dI l_3 ps_l_3 s_)) (src_L3 (f := dI) (f2 := dI) (f3 := dI) (i := 17) (j := 18) (k := 19) (ev_var (i := 16) rfl)) q123 (.cons .rfl (.cons .rfl (.cons .rfl (.cons .rfl (.cons .rfl (.cons .rfl (.cons .rfl (.cons .rfl (.cons .rfl (.cons .rfl (.cons .rfl (.cons .rfl (.cons .rfl (.cons .rfl (.cons .rfl (.cons .rfl (.cons .rfl (.cons .un (.cons .un (.cons .un Wks.nil)))))))))))))))))))) rfl (fun _ => True.intro) ?_ ?_
        · rintro lo2 c100 ⟨v_further97, v_there98, v_piece99⟩ s_ hx2 h2 D2 he2 hn2 hct2
          show Wp _ _ _ [.da ((dL (dL (dU dI))) v_picture), .da ((dL (dU dI)) v_palette), .da ((dL (d3 dI dI dI)) v_shares), .da (dS v_way), .da ((dL (dL dI)) v_numbers), .da ((dL (dL (dU dI))) v_wanted), .da (dI v_place), .da (dI (((List.length v_picture : Int), (List.length t1 : Int))).1), .da (dI (((List.length v_picture : Int), (List.length t1 : Int))).2), .da (dI v_row13), .rf l_3, .da (dI v_lost16), .da (dI v_column14), .da (dI v_side15), .da (dI t75), .da (dI v_rest93), .da ((dL (d3 dI dI dI)) t95), .da (dI v_further97), .da (dI v_there98), .da (dI v_piece99)] (([] : M) ++ nest dI l_3 ps_l_3 c100)
          obtain ⟨t105, q106, h2⟩ := bindS h2
          obtain ⟨c107, q108, h2⟩ := bindS h2
          refine wp_nset (f := dI) (pre := ([] : M)) (ev_op (ev_nget (f := dI) (pre := ([] : M)) (ev_rf (i := 10) rfl) (ev_var (i := 17) rfl) (ev_var (i := 18) rfl) q106) (ev_var (i := 19) rfl) rr_i) (ev_rf (i := 10) rfl) (ev_var (i := 17) rfl) (ev_var (i := 18) rfl) q108 ?_
          show Wp _ _ _ [.da ((dL (dL (dU dI))) v_picture), .da ((dL (dU dI)) v_palette), .da ((dL (d3 dI dI dI)) v_shares), .da (dS v_way), .da ((dL (dL dI)) v_numbers), .da ((dL (dL (dU dI))) v_wanted), .da (dI v_place), .da (dI (((List.length v_picture : Int), (List.length t1 : Int))).1), .da (dI (((List.length v_picture : Int), (List.length t1 : Int))).2), .da (dI v_row13), .rf l_3, .da (dI v_lost16), .da (dI v_column14), .da (dI v_side15), .da (dI t75), .da (dI v_rest93), .da ((dL (d3 dI dI dI)) t95), .da (dI v_further97), .da (dI v_there98), .da (dI v_piece99)] (([] : M) ++ nest dI l_3 ps_l_3 c107)
          cases h2
          exact wp_next fun σ H a => hn2 σ H (at_weak (.cons .rfl (.cons .rfl (.cons .rfl (.cons .rfl (.cons .rfl (.cons .rfl (.cons .rfl (.cons .rfl (.cons .rfl (.cons .rfl (.cons .rfl (.cons .rfl (.cons .rfl (.cons .rfl (.cons .rfl (.cons .rfl (.cons .rfl (.cons .un (.cons .un (.cons .un Wks.nil)))))))))))))))))))) a)
        · show Wp _ _ _ [.da ((dL (dL (dU dI))) v_picture), .da ((dL (dU dI)) v_palette), .da ((dL (d3 dI dI dI)) v_shares), .da (dS v_way), .da ((dL (dL dI)) v_numbers), .da ((dL (dL (dU dI))) v_wanted), .da (dI v_place), .da (dI (((List.length v_picture : Int), (List.length t1 : Int))).1), .da (dI (((List.length v_picture : Int), (List.length t1 : Int))).2), .da (dI v_row13), .rf l_3, .da (dI v_lost16), .da (dI v_column14), .da (dI v_side15), .da (dI t75), .da (dI v_rest93), .da ((dL (d3 dI dI dI)) t95), .un, .un, .un] (([] : M) ++ nest dI l_3 ps_l_3 c109)
          obtain ⟨k121, q122, h1⟩ := bindS h1
          refine wp_cutIfC (fun (s_ : Int) => [.da ((dL (dL (dU dI))) v_picture), .da ((dL (dU dI)) v_palette), .da ((dL (d3 dI dI dI)) v_shares), .da (dS v_way), .da ((dL (dL dI)) v_numbers), .da ((dL (dL (dU dI))) v_wanted), .da (dI v_place), .da (dI (((List.length v_picture : Int), (List.length t1 : Int))).1), .da (dI (((List.length v_picture : Int), (List.length t1 : Int))).2), .da (dI v_row13), .rf l_3, .da (dI s_), .da (dI v_column14), .da (dI v_side15), .da (dI t75), .da (dI v_rest93), .da ((dL (d3 dI dI dI)) t95), .un, .un, .un]) (fun (s_ : Int) => (([] : M) ++ nest dI l_3 ps_l_3 c109)) (c := k121) ?_ (et_test (ev_op (ev_var (i := 16) rfl) (show Ev _ _ _ _ (.da ((dL (d3 dI dI dI)) ([] : (List (Int × Int × Int))))) _ from ev_lst (dl := []) ea_nil (Nat.le_of_ble_eq_true rfl)) (rr_eq (f := (dL (d3 dI dI dI))) (by decide)))) (fun hc => ?_) (fun hc => ?_)
          · rintro v_lost120 hk_
            have h1 := ctlK_go hk_ h1
            show Wp _ _ _ [.da ((dL (dL (dU dI))) v_picture), .da ((dL (dU dI)) v_palette), .da ((dL (d3 dI dI dI)) v_shares), .da (dS v_way), .da ((dL (dL dI)) v_numbers), .da ((dL (dL (dU dI))) v_wanted), .da (dI v_place), .da (dI (((List.length v_picture : Int), (List.length t1 : Int))).1), .da (dI (((List.length v_picture : Int), (List.length t1 : Int))).2), .da (dI v_row13), .rf l_3, .da (dI v_lost120), .da (dI v_column14), .da (dI v_side15), .da (dI t75), .da (dI v_rest93), .da ((dL (d3 dI dI dI)) t95), .un, .un, .un] (([] : M) ++ nest dI l_3 ps_l_3 c109)
            cases h1
            exact wp_next fun σ H a => (hn1 _ rfl) σ H (at_weak (.cons .rfl (.cons .rfl (.cons .rfl (.cons .rfl (.cons .rfl (.cons .rfl (.cons .rfl (.cons .rfl (.cons .rfl (.cons .un (.cons .rfl (.cons .rfl (.cons .un (.cons .un (.cons .un (.cons .un (.cons .un (.cons .un (.cons .un (.cons .un Wks.nil)))))))))))))))))))) a)
          · have hret2 : ∀ r_, k121 = .rt r_ → k121 = .rt r_ := fun _ e => e
            have h2 := condT hc q122
            obtain ⟨v_lost115, q116, h2⟩ := bindS h2
            refine wp_asg (i := 11) (ev_eq (f := dI) (ev_op (ev_var (i := 11) rfl) (ev_var (i := 15) rfl) rr_i) (Option.some.inj q116)) ?_
            show Wp _ _ _ [.da ((dL (dL (dU dI))) v_picture), .da ((dL (dU dI)) v_palette), .da ((dL (d3 dI dI dI)) v_shares), .da (dS v_way), .da ((dL (dL dI)) v_numbers), .da ((dL (dL (dU dI))) v_wanted), .da (dI v_place), .da (dI (((List.length v_picture : Int), (List.length t1 : Int))).1), .da (dI (((List.length v_picture : Int), (List.length t1 : Int))).2), .da (dI v_row13), .rf l_3, .da (dI v_lost115), .da (dI v_column14), .da (dI v_side15), .da (dI t75), .da (dI v_rest93), .da ((dL (d3 dI dI dI)) t95), .un, .un, .un] (([] : M) ++ nest dI l_3 ps_l_3 c109)
            cases h2
            exact wp_nextE (.cons .rfl (.cons .rfl (.cons .rfl (.cons .rfl (.cons .rfl (.cons .rfl (.cons .rfl (.cons .rfl (.cons .rfl (.cons .rfl (.cons .rfl (.cons .rfl (.cons .rfl (.cons .rfl (.cons .rfl (.cons .rfl (.cons .rfl (.cons .un (.cons .un (.cons .un Wks.nil)))))))))))))))))))) rfl
          · have hret2 : ∀ r_, k121 = .rt r_ → k121 = .rt r_ := fun _ e => e
            have h2 := condF hc q122
            obtain ⟨u118, q119, h2⟩ := bindS h2
            refine wp_if (et_test (ev_op (ev_cb (ea_cons (lc_end (lc_map (f2 := dI) (step := fun x => some ((fun (v_piece117 : (Int × Int × Int)) => (v_piece117).2.2) x)) (src_L (f := (d3 dI dI dI)) (j := 19) (ev_var (i := 16) rfl)) (by decide) (fun _ => True.intro) q119 (mapO_pure _) (by rintro v_piece117 y_ hx_ h_; cases h_; exact (ev_op (ev_var (i := 19) rfl) (ev_int (i := 2)) (rr_ixT (dl := [dI (v_piece117).1, dI (v_piece117).2.1, dI (v_piece117).2.2]) rfl))))) ea_nil) rc_sum) (ev_var (i := 15) rfl) rr_neI)) (fun hc => ?_) (fun hc => ?_)
            · have h2 := condT hc h2
              cases h2
              have g2 := ctlK_rt (hret2 _ rfl) h1
              cases g2
              have g1 := ctlK_rt (hret1 _ rfl) h0
              have e0_ := Option.some.inj g1
              subst e0_
              exact wp_retS (tz := tNext) (show Ev _ _ _ _ (.da ((dO dI) none)) _ from ev_non) (fin_at hfin he1) ⟨rfl, rfl⟩ (List.nil_sublist _)
            · have h2 := condF hc h2
              refine wp_next ?_
              cases h2
              exact wp_nextE (.cons .rfl (.cons .rfl (.cons .rfl (.cons .rfl (.cons .rfl (.cons .rfl (.cons .rfl (.cons .rfl (.cons .rfl (.cons .rfl (.cons .rfl (.cons .rfl (.cons .rfl (.cons .rfl (.cons .rfl (.cons .rfl (.cons .rfl (.cons .un (.cons .un (.cons .un Wks.nil)))))))))))))))))))) rfl
    · rintro ⟨v_lost124, c125⟩ hk_
      have h0 := ctlK_go hk_ h0
      show Wp _ _ _ [.da ((dL (dL (dU dI))) v_picture), .da ((dL (dU dI)) v_palette), .da ((dL (d3 dI dI dI)) v_shares), .da (dS v_way), .da ((dL (dL dI)) v_numbers), .da ((dL (dL (dU dI))) v_wanted), .da (dI v_place), .da (dI (((List.length v_picture : Int), (List.length t1 : Int))).1), .da (dI (((List.length v_picture : Int), (List.length t1 : Int))).2), .un, .rf l_3, .da (dI v_lost124), .un, .un, .un, .un, .un, .un, .un, .un] (([] : M) ++ nest dI l_3 ps_l_3 c125)
      have e0_ := Option.some.inj h0
      subst e0_
      exact wp_retS (tz := tNext) (show Ev _ _ _ _ (.da ((dO dI) (some v_lost124))) _ from (ev_var (i := 11) rfl)) hfin ⟨rfl, rfl⟩ (List.nil_sublist _)
end K83
set_option maxHeartbeats 2000000
namespace K83
open PySem PySem.Spec PyProof.Rows L2 Evl FC
theorem ok_m_law_walked {P : Program} {w : World} {K : PySem.W.Frag} {mg : Str → Option Value} {base : Heap} {f : Addr} {fd : FuncData} (FF : Fun K "_law_walked" "_law_walked" sm_law_walked f fd) {f_m_law_place_right : Addr} {fd_m_law_place_right : FuncData} (G_m_law_place_right : FnOk P w K mg base CX0 2 f_m_law_place_right fd_m_law_place_right ["picture", "palette", "shares", "way", "numbers", "wanted", "place"] (spOf K (pf_m_law_place_right))) (g_m_law_place_right : mg "_law_place_right" = some (.ref f_m_law_place_right)) (k_m_law_place_right : PySem.W.keepIn K (.ref f_m_law_place_right) = true) (b_m_law_place_right : Binds K fd_m_law_place_right ["picture", "palette", "shares", "way", "numbers", "wanted", "place"] []) {f_m_wanted_by : Addr} {fd_m_wanted_by : FuncData} (G_m_wanted_by : FnOk P w K mg base CX0 4 f_m_wanted_by fd_m_wanted_by ["picture", "palette", "shares", "way", "numbers"] (spOf K (pf_m_wanted_by))) (g_m_wanted_by : mg "wanted_by" = some (.ref f_m_wanted_by)) (k_m_wanted_by : PySem.W.keepIn K (.ref f_m_wanted_by) = true) (b_m_wanted_by : Binds K fd_m_wanted_by ["picture", "palette", "shares", "way", "numbers"] []) (n_len : mg "len" = none) (n_range : mg "range" = none) (n_tuple : mg "tuple" = none) : FnOk P w K mg base CX0 5 f fd ["picture", "palette", "shares", "way", "numbers"] (spOf K (pf_m_law_walked)) := by
  refine ok_of (N := N_m_law_walked) FF sc_m_law_walked (fun as m R hG => ?_) (fun cdv A outer s H E hr => ?_)
  · obtain ⟨v_picture, v_palette, v_shares, v_way, v_numbers, r_, _, rfl, _⟩ := hG
    rfl
  · have nd : (N_m_law_walked : List Str).Nodup := sc_m_law_walked.nd
    refine ⟨_, (pss_cons (ps_set (i := 5) nd rfl (Or.inl rfl) (pe_call G_m_wanted_by (hr.mono (by decide)) (by rfl) g_m_wanted_by k_m_wanted_by b_m_wanted_by .nil pass0 (pa_cons (pv 0) (pa_cons (pv 1) (pa_cons (pv 2) (pa_cons (pv 3) (pa_cons (pv 4) pa_nil)))))))
      (pss_cons (ps_set (i := 6) nd rfl (Or.inl rfl) (pe_lst pa_nil))
      (pss_cons (ps_for PassesOwn.never rfl (pi_range1 (by rfl) n_range (pa_cons (pe_callB (kCa (r := rLenA) (K := K) call_len_seq rfl) (by rfl) n_len (by decide +kernel) (pa_cons (pe_ix (kIx (r := rIxL) (K := K) ix_list rfl) (pv 1) pe_int (fun _ _ => rfl)) pa_nil)) pa_nil)) (pg_name (i := 7) nd rfl (by first | exact Or.inl rfl | exact Or.inr rfl))
      (pss_cons (ps_expr (pe_bm PySem.F.plainAttrs_list PySem.F.slot_list_append PySem.F.type_list_append mt_append (pv 6) (pa_cons (pe_call G_m_law_place_right (hr.mono (by decide)) (by rfl) g_m_law_place_right k_m_law_place_right b_m_law_place_right .nil pass0 (pa_cons (pv 0) (pa_cons (pv 1) (pa_cons (pv 2) (pa_cons (pv 3) (pa_cons (pv 4) (pa_cons (pv 5) (pa_cons (pv 7) pa_nil)))))))) pa_nil)))
      pss_nil))
      (pss_cons (ps_ret (pe_callTy (kCa (r := rTupOf) (K := K) call_tuple_of rfl) (by rfl) n_tuple (by decide +kernel) (pa_cons (pv 6) pa_nil))) pss_nil)))), ?_⟩
    rintro as m R ⟨v_picture, v_palette, v_shares, v_way, v_numbers, r_, h0, rfl, rfl, rfl⟩ F D rfl hk hfin hnx
    unfold m_law_walked at h0
    show Wp _ _ _ [.da ((dL (dL (dU dI))) v_picture), .da ((dL (dU dI)) v_palette), .da ((dL (d3 dI dI dI)) v_shares), .da (dS v_way), .da ((dL (dL dI)) v_numbers), .un, .un, .un] []
    obtain ⟨t1, q2, h0⟩ := bindS h0
    refine wp_asg (i := 5) (ev_call (ea_cons (ev_var (i := 0) rfl) (ea_cons (ev_var (i := 1) rfl) (ea_cons (ev_var (i := 2) rfl) (ea_cons (ev_var (i := 3) rfl) (ea_cons (ev_var (i := 4) rfl) ea_nil))))) ⟨_, ⟨_, _, _, _, _, _, q2, rfl, rfl, rfl⟩, fun _ _ h => h⟩) ?_
    show Wp _ _ _ [.da ((dL (dL (dU dI))) v_picture), .da ((dL (dU dI)) v_palette), .da ((dL (d3 dI dI dI)) v_shares), .da (dS v_way), .da ((dL (dL dI)) v_numbers), .da ((dL (dL (dU dI))) t1), .un, .un] []
    refine wp_asgN (i := 6) (show EvN _ _ _ _ (.ls (List.map (dO dI) ([] : (List (Option Int))))) _ from en_lst (dl := []) ea_nil (Nat.le_of_ble_eq_true rfl)) (fun l_3 nk_l_3 => ?_) rfl
    show Wp _ _ _ [.da ((dL (dL (dU dI))) v_picture), .da ((dL (dU dI)) v_palette), .da ((dL (d3 dI dI dI)) v_shares), .da (dS v_way), .da ((dL (dL dI)) v_numbers), .da ((dL (dL (dU dI))) t1), .rf l_3, .un] [(l_3, .ls (List.map (dO dI) ([] : (List (Option Int)))))]
    obtain ⟨t4, q5, h0⟩ := bindS h0
    obtain ⟨rg6, q7, h0⟩ := bindS h0
    obtain ⟨c18, q19, h0⟩ := bindS h0
    refine wp_forF (fun (s_ : (List (Option Int))) => [.da ((dL (dL (dU dI))) v_picture), .da ((dL (dU dI)) v_palette), .da ((dL (d3 dI dI dI)) v_shares), .da (dS v_way), .da ((dL (dL dI)) v_numbers), .da ((dL (dL (dU dI))) t1), .rf l_3, .un]) (fun (s_ : (List (Option Int))) => [(l_3, .ls (List.map (dO dI) s_))]) (src_R1 (j := 7) (ea_cons (ev_cb (ea_cons (ev_op (ev_var (i := 1) rfl) (ev_int (i := 0)) (rr_ixL (f := (dU dI)) q5)) ea_nil) (rc_lenU (f := dI))) ea_nil) q7) q19 (.cons .rfl (.cons .rfl (.cons .rfl (.cons .rfl (.cons .rfl (.cons .rfl (.cons .rfl (.cons .un Wks.nil)))))))) rfl (fun _ => True.intro) ?_ ?_
    · rintro lo1 c9 v_place8 s_ hx1 h1 D1 he1 hn1 hct1
      show Wp _ _ _ [.da ((dL (dL (dU dI))) v_picture), .da ((dL (dU dI)) v_palette), .da ((dL (d3 dI dI dI)) v_shares), .da (dS v_way), .da ((dL (dL dI)) v_numbers), .da ((dL (dL (dU dI))) t1), .rf l_3, .da (dI v_place8)] [(l_3, .ls (List.map (dO dI) c9))]
      obtain ⟨t14, q15, h1⟩ := bindS h1
      obtain ⟨u16, q17, h1⟩ := bindS h1
      refine wp_expr (ev_bm (ev_rf (i := 6) rfl) (j := 0) rfl (ea_cons (ev_call (ea_cons (ev_var (i := 0) rfl) (ea_cons (ev_var (i := 1) rfl) (ea_cons (ev_var (i := 2) rfl) (ea_cons (ev_var (i := 3) rfl) (ea_cons (ev_var (i := 4) rfl) (ea_cons (ev_var (i := 5) rfl) (ea_cons (ev_var (i := 7) rfl) ea_nil))))))) ⟨_, ⟨_, _, _, _, _, _, _, _, q15, rfl, rfl, rfl⟩, fun _ _ h => h⟩) ea_nil) (rm_app (f := (dO dI)) 0 rfl q17)) ?_
      show Wp _ _ _ [.da ((dL (dL (dU dI))) v_picture), .da ((dL (dU dI)) v_palette), .da ((dL (d3 dI dI dI)) v_shares), .da (dS v_way), .da ((dL (dL dI)) v_numbers), .da ((dL (dL (dU dI))) t1), .rf l_3, .da (dI v_place8)] [(l_3, .ls (List.map (dO dI) (c9 ++ [t14])))]
      cases h1
      exact wp_next fun σ H a => hn1 σ H (at_weak (.cons .rfl (.cons .rfl (.cons .rfl (.cons .rfl (.cons .rfl (.cons .rfl (.cons .rfl (.cons .un Wks.nil)))))))) a)
    · show Wp _ _ _ [.da ((dL (dL (dU dI))) v_picture), .da ((dL (dU dI)) v_palette), .da ((dL (d3 dI dI dI)) v_shares), .da (dS v_way), .da ((dL (dL dI)) v_numbers), .da ((dL (dL (dU dI))) t1), .rf l_3, .un] [(l_3, .ls (List.map (dO dI) c18))]
      refine wp_frz (i := 6) (j := 0) (l := l_3) rfl rfl nk_l_3 ?_
      show Wp _ _ _ [.da ((dL (dL (dU dI))) v_picture), .da ((dL (dU dI)) v_palette), .da ((dL (d3 dI dI dI)) v_shares), .da (dS v_way), .da ((dL (dL dI)) v_numbers), .da ((dL (dL (dU dI))) t1), .da ((dL (dO dI)) c18), .un] []
      have e0_ := Option.some.inj h0
      subst e0_
      exact wp_retS (ev_cb (ea_cons (ev_var (i := 6) rfl) ea_nil) (rc_tupL (f := (dO dI)))) hfin ⟨rfl, rfl⟩ (List.nil_sublist _)
end K83
set_option maxHeartbeats 2000000
namespace K83
open PySem PySem.Spec PyProof.Rows L2 Evl FC
theorem ok_m_law_sums_right {P : Program} {w : World} {K : PySem.W.Frag} {mg : Str → Option Value} {base : Heap} {f : Addr} {fd : FuncData} (FF : Fun K "_law_sums_right" "_law_sums_right" sm_law_sums_right f fd) (n_len : mg "len" = none) (n_range : mg "range" = none) (n_sum : mg "sum" = none) : FnOk P w K mg base CX0 1 f fd ["picture", "palette", "numbers", "lost"] (spOf K (pf_m_law_sums_right)) := by
  refine ok_of (N := N_m_law_sums_right) FF sc_m_law_sums_right (fun as m R hG => ?_) (fun cdv A outer s H E hr => ?_)
  · obtain ⟨v_picture, v_palette, v_numbers, v_lost, r_, _, rfl, _⟩ := hG
    rfl
  · have nd : (N_m_law_sums_right : List Str).Nodup := sc_m_law_sums_right.nd
    refine ⟨_, (pss_cons (ps_for PassesOwn.never rfl (pi_range1 (by rfl) n_range (pa_cons (pe_callB (kCa (r := rLenA) (K := K) call_len_seq rfl) (by rfl) n_len (by decide +kernel) (pa_cons (pv 3) pa_nil)) pa_nil)) (pg_name (i := 4) nd rfl (by first | exact Or.inl rfl | exact Or.inr rfl))
      (pss_cons (ps_set (i := 5) nd rfl (Or.inl rfl) (pe_callB (kCa (r := rSum) (K := K) (cr_sum rfl) rfl) (by rfl) n_sum (by decide +kernel) (pa_cons (pe_lc (own := [("row", 7)]) (g := gName 7) (tt := tYes) rfl nd (kPi (r := fun K => iList K _) (K := K) (pi_list (pv 0)) rfl) (blkOk_by (own := [("row", 7)]) (N := N_m_law_sums_right) (sc := (defScope sm_law_sums_right)) (by decide +kernel)) (fun _ _ _ _ _ => (pg_name (i := 7) nd rfl (by first | exact Or.inl rfl | exact Or.inr rfl))) (fun _ _ _ _ _ => pts_nil) (fun _ _ _ _ _ => (pe_callB (kCa (r := rSum) (K := K) (cr_sum rfl) rfl) (by rfl) n_sum (by decide +kernel) (pa_cons (pe_lc (own := [("colour", 8)]) (g := gName 8) (tt := tYes) rfl nd (kPi (r := fun K => iList K _) (K := K) (pi_list (pv 7)) rfl) (blkOk_by (own := [("colour", 8)]) (N := N_m_law_sums_right) (sc := (relS ({ kind := .function, names := [(".0", .local), ("row", .local), ("sum", .globalImplicit), ("place", .free)], isGenerator := false, isCoroutine := false, more := [] } : Scope) (defScope sm_law_sums_right))) (by decide +kernel)) (fun _ _ _ _ _ => (pg_name (i := 8) nd rfl (by first | exact Or.inl rfl | exact Or.inr rfl))) (fun _ _ _ _ _ => pts_nil) (fun _ _ _ _ _ => (pe_ix (kIx (r := rIxT) (K := K) ix_tup rfl) (pv 8) (pv 4) (fun _ _ => rfl)))) pa_nil)))) pa_nil)))
      (pss_cons (ps_set (i := 6) nd rfl (Or.inl rfl) (pe_callB (kCa (r := rSum) (K := K) (cr_sum rfl) rfl) (by rfl) n_sum (by decide +kernel) (pa_cons (pe_lc (own := [("row", 7)]) (g := gName 7) (tt := tYes) rfl nd (kPi (r := fun K => iList K _) (K := K) (pi_list (pv 2)) rfl) (blkOk_by (own := [("row", 7)]) (N := N_m_law_sums_right) (sc := (defScope sm_law_sums_right)) (by decide +kernel)) (fun _ _ _ _ _ => (pg_name (i := 7) nd rfl (by first | exact Or.inl rfl | exact Or.inr rfl))) (fun _ _ _ _ _ => pts_nil) (fun _ _ _ _ _ => (pe_callB (kCa (r := rSum) (K := K) (cr_sum rfl) rfl) (by rfl) n_sum (by decide +kernel) (pa_cons (pe_lc (own := [("number", 9)]) (g := gName 9) (tt := tYes) rfl nd (kPi (r := fun K => iList K _) (K := K) (pi_list (pv 7)) rfl) (blkOk_by (own := [("number", 9)]) (N := N_m_law_sums_right) (sc := (relS ({ kind := .function, names := [(".0", .local), ("row", .local), ("sum", .globalImplicit), ("palette", .free), ("place", .free)], isGenerator := false, isCoroutine := false, more := [] } : Scope) (defScope sm_law_sums_right))) (by decide +kernel)) (fun _ _ _ _ _ => (pg_name (i := 9) nd rfl (by first | exact Or.inl rfl | exact Or.inr rfl))) (fun _ _ _ _ _ => pts_nil) (fun _ _ _ _ _ => (pe_ix (kIx (r := rIxT) (K := K) ix_tup rfl) (pe_ix (kIx (r := rIxL) (K := K) ix_list rfl) (pv 1) (pv 9) (fun _ _ => rfl)) (pv 4) (fun _ _ => rfl)))) pa_nil)))) pa_nil)))
      (pss_cons (ps_if (pt_cmpR op_ne (pv 5) (pe_op op_add (pv 6) (pe_ix (kIx (r := rIxT) (K := K) ix_tup rfl) (pv 3) (pv 4) (fun _ _ => rfl))) (nomark _)) (pss_cons (ps_ret pe_bl) pss_nil) pss_nil)
      pss_nil))))
      (pss_cons (ps_ret pe_bl) pss_nil)), ?_⟩
    rintro as m R ⟨v_picture, v_palette, v_numbers, v_lost, r_, h0, rfl, rfl, rfl⟩ F D rfl hk hfin hnx
    unfold m_law_sums_right at h0
    show Wp _ _ _ [.da ((dL (dL (dU dI))) v_picture), .da ((dL (dU dI)) v_palette), .da ((dL (dL dI)) v_numbers), .da ((dU dI) v_lost), .un, .un, .un, .un, .un, .un] []
    obtain ⟨rg1, q2, h0⟩ := bindS h0
    obtain ⟨k70, q69, h0⟩ := bindS h0
    refine wp_forC (fun (s_ : Unit) => [.da ((dL (dL (dU dI))) v_picture), .da ((dL (dU dI)) v_palette), .da ((dL (dL dI)) v_numbers), .da ((dU dI) v_lost), .un, .un, .un, .un, .un, .un]) (fun (s_ : Unit) => []) (src_R1 (j := 4) (ea_cons (ev_cb (ea_cons (ev_var (i := 3) rfl) ea_nil) (rc_lenU (f := dI))) ea_nil) q2) q69 (.cons .rfl (.cons .rfl (.cons .rfl (.cons .rfl (.cons .un (.cons .un (.cons .un (.cons .un (.cons .un (.cons .un Wks.nil)))))))))) rfl (fun _ => True.intro) ?_ ?_
    · rintro lo1 ⟨⟩ v_place3 c_ hx1 h1 D1 he1 hn1 hct1 hbk1 hret1
      show Wp _ _ _ [.da ((dL (dL (dU dI))) v_picture), .da ((dL (dU dI)) v_palette), .da ((dL (dL dI)) v_numbers), .da ((dU dI) v_lost), .da (dI v_place3), .un, .un, .un, .un, .un] []
      obtain ⟨u44, q45, h1⟩ := bindS h1
      obtain ⟨o46, q47, h1⟩ := bindS h1
      obtain ⟨v_own48, q49, h1⟩ := bindS h1
      refine wp_asg (i := 5) (ev_eq (f := dI) (ev_cb (ea_cons (lc_end (lc_map (f2 := dI) (src_L (f := (dL (dU dI))) (j := 7) (ev_var (i := 0) rfl)) (by decide) (fun _ => True.intro) q45 q47 (by rintro v_row36 y_ hx_ h_; obtain ⟨u40, q41, h_⟩ := bindS h_; obtain ⟨o42, q43, h_⟩ := bindS h_; cases h_; exact (ev_cb (ea_cons (lc_end (lc_map (f2 := dI) (src_L (f := (dU dI)) (j := 8) (ev_var (i := 7) rfl)) (by decide) (fun _ => True.intro) q41 q43 (by rintro v_colour37 y_ hx_ h_; obtain ⟨t38, q39, h_⟩ := bindS h_; cases h_; exact (ev_op (ev_var (i := 8) rfl) (ev_var (i := 4) rfl) (rr_ixU (f := dI) q39))))) ea_nil) rc_sum)))) ea_nil) rc_sum) (Option.some.inj q49)) ?_
      show Wp _ _ _ [.da ((dL (dL (dU dI))) v_picture), .da ((dL (dU dI)) v_palette), .da ((dL (dL dI)) v_numbers), .da ((dU dI) v_lost), .da (dI v_place3), .da (dI v_own48), .un, .un, .un, .un] []
      obtain ⟨u60, q61, h1⟩ := bindS h1
      obtain ⟨o62, q63, h1⟩ := bindS h1
      obtain ⟨v_told64, q65, h1⟩ := bindS h1
      refine wp_asg (i := 6) (ev_eq (f := dI) (ev_cb (ea_cons (lc_end (lc_map (f2 := dI) (src_L (f := (dL dI)) (j := 7) (ev_var (i := 2) rfl)) (by decide) (fun _ => True.intro) q61 q63 (by rintro v_row50 y_ hx_ h_; obtain ⟨u56, q57, h_⟩ := bindS h_; obtain ⟨o58, q59, h_⟩ := bindS h_; cases h_; exact (ev_cb (ea_cons (lc_end (lc_map (f2 := dI) (src_L (f := dI) (j := 9) (ev_var (i := 7) rfl)) (by decide) (fun _ => True.intro) q57 q59 (by rintro v_number51 y_ hx_ h_; obtain ⟨t52, q53, h_⟩ := bindS h_; obtain ⟨t54, q55, h_⟩ := bindS h_; cases h_; exact (ev_op (ev_op (ev_var (i := 1) rfl) (ev_var (i := 9) rfl) (rr_ixL (f := (dU dI)) q53)) (ev_var (i := 4) rfl) (rr_ixU (f := dI) q55))))) ea_nil) rc_sum)))) ea_nil) rc_sum) (Option.some.inj q65)) ?_
      show Wp _ _ _ [.da ((dL (dL (dU dI))) v_picture), .da ((dL (dU dI)) v_palette), .da ((dL (dL dI)) v_numbers), .da ((dU dI) v_lost), .da (dI v_place3), .da (dI v_own48), .da (dI v_told64), .un, .un, .un] []
      obtain ⟨t66, q67, h1⟩ := bindS h1
      refine wp_if (et_test (ev_op (ev_var (i := 5) rfl) (ev_op (ev_var (i := 6) rfl) (ev_op (ev_var (i := 3) rfl) (ev_var (i := 4) rfl) (rr_ixU (f := dI) q67)) rr_i) rr_neI)) (fun hc => ?_) (fun hc => ?_)
      · have h1 := condT hc h1
        cases h1
        have g1 := ctlK_rt (hret1 _ rfl) h0
        have e0_ := Option.some.inj g1
        subst e0_
        exact wp_retS ev_bl (fin_at hfin he1) ⟨rfl, rfl⟩ (List.nil_sublist _)
      · have h1 := condF hc h1
        refine wp_next ?_
        cases h1
        exact wp_next fun σ H a => (hn1 _ rfl) σ H (at_weak (.cons .rfl (.cons .rfl (.cons .rfl (.cons .rfl (.cons .un (.cons .un (.cons .un (.cons .un (.cons .un (.cons .un Wks.nil)))))))))) a)
    · rintro ⟨⟩ hk_
      have h0 := ctlK_go hk_ h0
      show Wp _ _ _ [.da ((dL (dL (dU dI))) v_picture), .da ((dL (dU dI)) v_palette), .da ((dL (dL dI)) v_numbers), .da ((dU dI) v_lost), .un, .un, .un, .un, .un, .un] []
      have e0_ := Option.some.inj h0
      subst e0_
      exact wp_retS ev_bl hfin ⟨rfl, rfl⟩ (List.nil_sublist _)
end K83
set_option maxHeartbeats 2000000
namespace K83
open PySem PySem.Spec PyProof.Rows L2 Evl FC
theorem ok_m_law {P : Program} {w : World} {K : PySem.W.Frag} {mg : Str → Option Value} {base : Heap} {f : Addr} {fd : FuncData} (FF : Fun K "law" "law" sm_law f fd) {f_m_law_kind : Addr} {fd_m_law_kind : FuncData} (G_m_law_kind : FnOk P w K mg base CX0 3 f_m_law_kind fd_m_law_kind ["left"] (spOf K (pf_m_law_kind))) (g_m_law_kind : mg "_law_kind" = some (.ref f_m_law_kind)) (k_m_law_kind : PySem.W.keepIn K (.ref f_m_law_kind) = true) (b_m_law_kind : Binds K fd_m_law_kind ["left"] []) {f_m_law_left : Addr} {fd_m_law_left : FuncData} (G_m_law_left : FnOk P w K mg base CX0 1 f_m_law_left fd_m_law_left ["script", "k"] (spOf K (pf_m_law_left))) (g_m_law_left : mg "_law_left" = some (.ref f_m_law_left)) (k_m_law_left : PySem.W.keepIn K (.ref f_m_law_left) = true) (b_m_law_left : Binds K fd_m_law_left ["script", "k"] []) {f_m_law_palette : Addr} {fd_m_law_palette : FuncData} (G_m_law_palette : FnOk P w K mg base CX0 4 f_m_law_palette fd_m_law_palette ["left", "kind"] (spOf K (pf_m_law_palette))) (g_m_law_palette : mg "_law_palette" = some (.ref f_m_law_palette)) (k_m_law_palette : PySem.W.keepIn K (.ref f_m_law_palette) = true) (b_m_law_palette : Binds K fd_m_law_palette ["left", "kind"] []) {f_m_law_pick : Addr} {fd_m_law_pick : FuncData} (G_m_law_pick : FnOk P w K mg base CX0 2 f_m_law_pick fd_m_law_pick ["left", "many"] (spOf K (pf_m_law_pick))) (g_m_law_pick : mg "_law_pick" = some (.ref f_m_law_pick)) (k_m_law_pick : PySem.W.keepIn K (.ref f_m_law_pick) = true) (b_m_law_pick : Binds K fd_m_law_pick ["left", "many"] []) {f_m_law_picture : Addr} {fd_m_law_picture : FuncData} (G_m_law_picture : FnOk P w K mg base CX0 4 f_m_law_picture fd_m_law_picture ["left", "kind"] (spOf K (pf_m_law_picture))) (g_m_law_picture : mg "_law_picture" = some (.ref f_m_law_picture)) (k_m_law_picture : PySem.W.keepIn K (.ref f_m_law_picture) = true) (b_m_law_picture : Binds K fd_m_law_picture ["left", "kind"] []) {f_m_law_shares : Addr} {fd_m_law_shares : FuncData} (G_m_law_shares : FnOk P w K mg base CX0 3 f_m_law_shares fd_m_law_shares ["left"] (spOf K (pf_m_law_shares))) (g_m_law_shares : mg "_law_shares" = some (.ref f_m_law_shares)) (k_m_law_shares : PySem.W.keepIn K (.ref f_m_law_shares) = true) (b_m_law_shares : Binds K fd_m_law_shares ["left"] []) {f_m_law_sums_right : Addr} {fd_m_law_sums_right : FuncData} (G_m_law_sums_right : FnOk P w K mg base CX0 1 f_m_law_sums_right fd_m_law_sums_right ["picture", "palette", "numbers", "lost"] (spOf K (pf_m_law_sums_right))) (g_m_law_sums_right : mg "_law_sums_right" = some (.ref f_m_law_sums_right)) (k_m_law_sums_right : PySem.W.keepIn K (.ref f_m_law_sums_right) = true) (b_m_law_sums_right : Binds K fd_m_law_sums_right ["picture", "palette", "numbers", "lost"] []) {f_m_law_walked : Addr} {fd_m_law_walked : FuncData} (G_m_law_walked : FnOk P w K mg base CX0 5 f_m_law_walked fd_m_law_walked ["picture", "palette", "shares", "way", "numbers"] (spOf K (pf_m_law_walked))) (g_m_law_walked : mg "_law_walked" = some (.ref f_m_law_walked)) (k_m_law_walked : PySem.W.keepIn K (.ref f_m_law_walked) = true) (b_m_law_walked : Binds K fd_m_law_walked ["picture", "palette", "shares", "way", "numbers"] []) {f_m_handed_on : Addr} {fd_m_handed_on : FuncData} (G_m_handed_on : FnOk P w K mg base CX0 4 f_m_handed_on fd_m_handed_on ["picture", "palette", "shares", "way"] (spOf K (pf_m_handed_on))) (g_m_handed_on : mg "handed_on" = some (.ref f_m_handed_on)) (k_m_handed_on : PySem.W.keepIn K (.ref f_m_handed_on) = true) (b_m_handed_on : Binds K fd_m_handed_on ["picture", "palette", "shares", "way"] []) (n_len : mg "len" = none) (n_min : mg "min" = none) (n_range : mg "range" = none) : FnOk P w K mg base CX0 6 f fd ["script"] (spOf K (pf_m_law)) := by
  refine ok_of (N := N_m_law) FF sc_m_law (fun as m R hG => ?_) (fun cdv A outer s H E hr => ?_)
  · obtain ⟨l_script, v_script, r_, _, rfl, _⟩ := hG
    rfl
  · have nd : (N_m_law : List Str).Nodup := sc_m_law.nd
    refine ⟨_, (pss_cons (ps_for PassesOwn.never rfl (pi_range1 (by rfl) n_range (pa_cons (pe_op op_add (pe_callB (call_min2 rfl) (by rfl) n_min (by decide +kernel) (pa_cons pe_int (pa_cons (pe_callB (kCa (r := rLenA) (K := K) call_len_seq rfl) (by rfl) n_len (by decide +kernel) (pa_cons (pv 0) pa_nil)) pa_nil))) pe_int) pa_nil)) (pg_name (i := 1) nd rfl (by first | exact Or.inl rfl | exact Or.inr rfl))
      (pss_cons (ps_set (i := 2) nd rfl (Or.inr rfl) (pe_call G_m_law_left (hr.mono (by decide)) (by rfl) g_m_law_left k_m_law_left b_m_law_left .nil pass0 (pa_cons (pv 0) (pa_cons (pv 1) pa_nil))))
      (pss_cons (ps_asg (pe_op op_add (pe_ix (kIx (r := rIxL) (K := K) ix_list rfl) (pv 2) pe_int (fun _ _ => rfl)) pe_int) (pg_sub (pv 2) pe_int set_list))
      (pss_cons (ps_set (i := 3) nd rfl (Or.inl rfl) (pe_call G_m_law_kind (hr.mono (by decide)) (by rfl) g_m_law_kind k_m_law_kind b_m_law_kind .nil pass0 (pa_cons (pv 2) pa_nil)))
      (pss_cons (ps_set (i := 4) nd rfl (Or.inl rfl) (pe_call G_m_law_picture (hr.mono (by decide)) (by rfl) g_m_law_picture k_m_law_picture b_m_law_picture .nil pass0 (pa_cons (pv 2) (pa_cons (pv 3) pa_nil))))
      (pss_cons (ps_set (i := 5) nd rfl (Or.inr rfl) (pe_call G_m_law_palette (hr.mono (by decide)) (by rfl) g_m_law_palette k_m_law_palette b_m_law_palette .nil pass0 (pa_cons (pv 2) (pa_cons (pv 3) pa_nil))))
      (pss_cons (ps_set (i := 6) nd rfl (Or.inl rfl) (pe_call G_m_law_shares (hr.mono (by decide)) (by rfl) g_m_law_shares k_m_law_shares b_m_law_shares .nil pass0 (pa_cons (pv 2) pa_nil)))
      (pss_cons (ps_setLc (i := 7) (own := [("row", 11)]) (g := gName 11) (tt := tYes) rfl nd rfl rfl (sw_true rfl rfl rfl (by decide +kernel)) (kPi (r := fun K => iList K _) (K := K) (pi_list (pv 4)) rfl) (blkOk_by (own := [("row", 11)]) (N := N_m_law) (sc := (defScope sm_law)) (by decide +kernel)) (fun _ _ _ _ _ => (pg_name (i := 11) nd rfl (by first | exact Or.inl rfl | exact Or.inr rfl))) (fun _ _ _ _ _ => pts_nil) (fun _ _ _ _ _ => (pe_lc (own := [("colour", 12)]) (g := gName 12) (tt := tYes) rfl nd (kPi (r := fun K => iList K _) (K := K) (pi_list (pv 11)) rfl) (blkOk_by (own := [("colour", 12)]) (N := N_m_law) (sc := (relS ({ kind := .function, names := [(".0", .local), ("row", .local), ("left", .free), ("palette", .free)], isGenerator := false, isCoroutine := false, more := [] } : Scope) (defScope sm_law))) (by decide +kernel)) (fun _ _ _ _ _ => (pg_name (i := 12) nd rfl (by first | exact Or.inl rfl | exact Or.inr rfl))) (fun _ _ _ _ _ => pts_nil) (fun _ _ _ _ _ => (pe_call G_m_law_pick (hr.mono (by decide)) (by rfl) g_m_law_pick k_m_law_pick b_m_law_pick .nil pass0 (pa_cons (pv 2) (pa_cons (pe_callB (kCa (r := rLenA) (K := K) call_len_seq rfl) (by rfl) n_len (by decide +kernel) (pa_cons (pv 5) pa_nil)) pa_nil)))))))
      (pss_cons (ps_for PassesOwn.never rfl (kPi (r := fun K => iTup K _) (K := K) (pi_tup (pe_tup (pa_cons pe_str (pa_cons pe_str pa_nil)))) rfl) (pg_name (i := 8) nd rfl (by first | exact Or.inl rfl | exact Or.inr rfl))
      (pss_cons (ps_asg (pe_call G_m_handed_on (hr.mono (by decide)) (by rfl) g_m_handed_on k_m_handed_on b_m_handed_on .nil pass0 (pa_cons (pv 4) (pa_cons (pv 5) (pa_cons (pv 6) (pa_cons (pv 8) pa_nil))))) (pg_tup rfl (pgs_cons (pg_name (i := 9) nd rfl (Or.inl rfl)) (pgs_cons (pg_name (i := 10) nd rfl (Or.inl rfl)) pgs_nil))))
      (pss_cons (ps_if (pt_cmpR (kOp (r := rNeP) (K := K) (op_neP hr.units) rfl) (pv 10) (pe_call G_m_law_walked (hr.mono (by decide)) (by rfl) g_m_law_walked k_m_law_walked b_m_law_walked .nil pass0 (pa_cons (pv 4) (pa_cons (pv 5) (pa_cons (pv 6) (pa_cons (pv 8) (pa_cons (pv 9) pa_nil)))))) (nomark _)) (pss_cons (ps_ret pe_bl) pss_nil) pss_nil)
      (pss_cons (ps_if (pt_not (pt_val (pe_call G_m_law_sums_right (hr.mono (by decide)) (by rfl) g_m_law_sums_right k_m_law_sums_right b_m_law_sums_right .nil pass0 (pa_cons (pv 4) (pa_cons (pv 5) (pa_cons (pv 9) (pa_cons (pv 10) pa_nil))))))) (pss_cons (ps_ret pe_bl) pss_nil) pss_nil)
      (pss_cons (ps_if (pt_cmpR (kOp (r := fun K => rInT K false) (K := K) (op_inT (hu65 hr)) rfl) pe_non (pe_call G_m_law_walked (hr.mono (by decide)) (by rfl) g_m_law_walked k_m_law_walked b_m_law_walked .nil pass0 (pa_cons (pv 4) (pa_cons (pv 5) (pa_cons (pv 6) (pa_cons (pv 8) (pa_cons (pv 7) pa_nil)))))) (by rfl)) (pss_cons (ps_ret pe_bl) pss_nil) pss_nil)
      pss_nil)))))
      pss_nil)))))))))
      (pss_cons (ps_ret pe_bl) pss_nil)), ?_⟩
    rintro as m R ⟨l_script, v_script, r_, h0, rfl, rfl, rfl⟩ F D rfl hk hfin hnx
    unfold m_law at h0
    show Wp _ _ _ [.sl l_script v_script, .un, .un, .un, .un, .un, .un, .un, .un, .un, .un, .un, .un] []
    obtain ⟨rg1, q2, h0⟩ := bindS h0
    obtain ⟨k168, q167, h0⟩ := bindS h0
    refine wp_forC (fun (s_ : Unit) => [.sl l_script v_script, .un, .un, .un, .un, .un, .un, .un, .un, .un, .un, .un, .un]) (fun (s_ : Unit) => []) (src_R1 (j := 1) (ea_cons (ev_op (ev_cb (ea_cons (ev_int (i := 3)) (ea_cons (ev_cb (ea_cons (ev_sc (i := 0) rfl) ea_nil) rc_lenSc) ea_nil)) rc_min2) (ev_int (i := 1)) rr_i) ea_nil) q2) q167 (.cons .rfl (.cons .un (.cons .un (.cons .un (.cons .un (.cons .un (.cons .un (.cons .un (.cons .un (.cons .un (.cons .un (.cons .un (.cons .un Wks.nil))))))))))))) rfl (fun _ => True.intro) ?_ ?_
    · rintro lo1 ⟨⟩ v_k3 c_ hx1 h1 D1 he1 hn1 hct1 hbk1 hret1
      show Wp _ _ _ [.sl l_script v_script, .da (dI v_k3), .un, .un, .un, .un, .un, .un, .un, .un, .un, .un, .un] []
      obtain ⟨c86, q87, h1⟩ := bindS h1
      refine wp_asgN (i := 2) (en_callP (mc := []) (mc' := []) (fr := []) (cd := .ls (List.map dI c86)) (m2 := []) (ea_cons (ev_sc (i := 0) rfl) (ea_cons (ev_var (i := 1) rfl) ea_nil)) (perm_ix (n := 0) [] rfl (by decide) rfl) (perm_ix (n := 0) [] rfl (by decide) rfl) ⟨_, ⟨_, _, _, _, q87, rfl, rfl, rfl⟩, fun _ _ h => h⟩) (fun l_85 nk_l_85 => ?_) rfl
      show Wp _ _ _ [.sl l_script v_script, .da (dI v_k3), .rf l_85, .un, .un, .un, .un, .un, .un, .un, .un, .un, .un] [(l_85, .ls (List.map dI c86))]
      obtain ⟨t88, q89, h1⟩ := bindS h1
      obtain ⟨c90, q91, h1⟩ := bindS h1
      refine wp_setL (f := dI) 0 (ev_op (ev_op (ev_rf (i := 2) rfl) (ev_int (i := 1)) (rr_ixC (f := dI) 0 rfl q89)) (ev_int (i := 1000)) rr_i) (ev_rf (i := 2) rfl) (ev_int (i := 1)) rfl q91 ?_
      show Wp _ _ _ [.sl l_script v_script, .da (dI v_k3), .rf l_85, .un, .un, .un, .un, .un, .un, .un, .un, .un, .un] [(l_85, .ls (List.map dI c90))]
      obtain ⟨⟨t92, c93⟩, q94, h1⟩ := bindS h1
      refine wp_asg (i := 3) (ev_call1 0 (ea_cons (ev_rf (i := 2) rfl) ea_nil) rfl ⟨_, ⟨_, _, _, _, q94, rfl, rfl, rfl⟩, fun _ _ h => h⟩) ?_
      show Wp _ _ _ [.sl l_script v_script, .da (dI v_k3), .rf l_85, .da ((dP dI dI) t92), .un, .un, .un, .un, .un, .un, .un, .un, .un] [(l_85, .ls (List.map dI c93))]
      obtain ⟨⟨t95, c96⟩, q97, h1⟩ := bindS h1
      refine wp_asg (i := 4) (ev_call1 0 (ea_cons (ev_rf (i := 2) rfl) (ea_cons (ev_var (i := 3) rfl) ea_nil)) rfl ⟨_, ⟨_, _, _, _, _, q97, rfl, rfl, rfl⟩, fun _ _ h => h⟩) ?_
      show Wp _ _ _ [.sl l_script v_script, .da (dI v_k3), .rf l_85, .da ((dP dI dI) t92), .da ((dL (dL (dU dI))) t95), .un, .un, .un, .un, .un, .un, .un, .un] [(l_85, .ls (List.map dI c96))]
      obtain ⟨⟨t98, c99⟩, q100, h1⟩ := bindS h1
      refine wp_asg (i := 5) (ev_call1 0 (ea_cons (ev_rf (i := 2) rfl) (ea_cons (ev_var (i := 3) rfl) ea_nil)) rfl ⟨_, ⟨_, _, _, _, _, q100, rfl, rfl, rfl⟩, fun _ _ h => h⟩) ?_
      show Wp _ _ _ [.sl l_script v_script, .da (dI v_k3), .rf l_85, .da ((dP dI dI) t92), .da ((dL (dL (dU dI))) t95), .da ((dL (dU dI)) t98), .un, .un, .un, .un, .un, .un, .un] [(l_85, .ls (List.map dI c99))]
      obtain ⟨⟨t101, c102⟩, q103, h1⟩ := bindS h1
      refine wp_asg (i := 6) (ev_call1 0 (ea_cons (ev_rf (i := 2) rfl) ea_nil) rfl ⟨_, ⟨_, _, _, _, q103, rfl, rfl, rfl⟩, fun _ _ h => h⟩) ?_
      show Wp _ _ _ [.sl l_script v_script, .da (dI v_k3), .rf l_85, .da ((dP dI dI) t92), .da ((dL (dL (dU dI))) t95), .da ((dL (dU dI)) t98), .da ((dL (d3 dI dI dI)) t101), .un, .un, .un, .un, .un, .un] [(l_85, .ls (List.map dI c102))]
      obtain ⟨u118, q119, h1⟩ := bindS h1
      obtain ⟨⟨o121, c120⟩, q136, h1⟩ := bindS h1
      refine wp_asg (i := 7) (lc_end (lc_mapS (f2 := (dL dI)) (fun (s_ : (List Int)) => [(l_85, .ls (List.map dI s_))]) (src_L (f := (dL (dU dI))) (j := 11) (ev_var (i := 4) rfl)) rfl (by decide) (fun _ => (fun _ => True.intro)) q119 q136 (by rintro s122 v_row104 y_ s_ hx_ h_; obtain ⟨u127, q128, h_⟩ := bindS h_; obtain ⟨⟨o130, c129⟩, q135, h_⟩ := bindS h_; cases h_; exact (lc_end (lc_mapS (f2 := dI) (fun (s_ : (List Int)) => [(l_85, .ls (List.map dI s_))]) (src_L (f := (dU dI)) (j := 12) (ev_var (i := 11) rfl)) rfl (by decide) (fun _ => (fun _ => True.intro)) q128 q135 (by rintro s131 v_colour123 y_ s_ hx_ h_; obtain ⟨⟨t132, c133⟩, q134, h_⟩ := bindS h_; cases h_; exact (ev_call1 0 (ea_cons (ev_rf (i := 2) rfl) (ea_cons (ev_cb (ea_cons (ev_var (i := 5) rfl) ea_nil) (rc_lenL (f := (dU dI)))) ea_nil)) rfl ⟨_, ⟨_, _, _, _, _, q134, rfl, rfl, rfl⟩, fun _ _ h => h⟩))))))) ?_
      show Wp _ _ _ [.sl l_script v_script, .da (dI v_k3), .rf l_85, .da ((dP dI dI) t92), .da ((dL (dL (dU dI))) t95), .da ((dL (dU dI)) t98), .da ((dL (d3 dI dI dI)) t101), .da ((dL (dL dI)) o121), .un, .un, .un, .un, .un] [(l_85, .ls (List.map dI c120))]
      obtain ⟨k165, q164, h1⟩ := bindS h1
      refine wp_forC (fun (s_ : Unit) => [.sl l_script v_script, .da (dI v_k3), .rf l_85, .da ((dP dI dI) t92), .da ((dL (dL (dU dI))) t95), .da ((dL (dU dI)) t98), .da ((dL (d3 dI dI dI)) t101), .da ((dL (dL dI)) o121), .un, .un, .un, .un, .un]) (fun (s_ : Unit) => [(l_85, .ls (List.map dI c120))]) (src_U (f := dS) (j := 8) (show Ev _ _ _ _ (.da (dU dS ([(Str.ofString "same"), (Str.ofString "turned")] : (List Str)))) _ from ev_tup (dl := [dS (Str.ofString "same"), dS (Str.ofString "turned")]) (ea_cons ev_str (ea_cons ev_str ea_nil)) (Nat.le_of_ble_eq_true rfl))) q164 (.cons .rfl (.cons .rfl (.cons .rfl (.cons .rfl (.cons .rfl (.cons .rfl (.cons .rfl (.cons .rfl (.cons .un (.cons .un (.cons .un (.cons .un (.cons .un Wks.nil))))))))))))) rfl (fun _ => True.intro) ?_ ?_
      · rintro lo2 ⟨⟩ v_way137 c_ hx2 h2 D2 he2 hn2 hct2 hbk2 hret2
        show Wp _ _ _ [.sl l_script v_script, .da (dI v_k3), .rf l_85, .da ((dP dI dI) t92), .da ((dL (dL (dU dI))) t95), .da ((dL (dU dI)) t98), .da ((dL (d3 dI dI dI)) t101), .da ((dL (dL dI)) o121), .da (dS v_way137), .un, .un, .un, .un] [(l_85, .ls (List.map dI c120))]
        obtain ⟨t155, q156, h2⟩ := bindS h2
        refine wp_unp2 (f := (dL (dL dI))) (g := (dU dI)) (i := 9) (j := 10) (ev_call (ea_cons (ev_var (i := 4) rfl) (ea_cons (ev_var (i := 5) rfl) (ea_cons (ev_var (i := 6) rfl) (ea_cons (ev_var (i := 8) rfl) ea_nil)))) ⟨_, ⟨_, _, _, _, _, q156, rfl, rfl, rfl⟩, fun _ _ h => h⟩) ?_
        show Wp _ _ _ [.sl l_script v_script, .da (dI v_k3), .rf l_85, .da ((dP dI dI) t92), .da ((dL (dL (dU dI))) t95), .da ((dL (dU dI)) t98), .da ((dL (d3 dI dI dI)) t101), .da ((dL (dL dI)) o121), .da (dS v_way137), .da ((dL (dL dI)) (t155).1), .da ((dU dI) (t155).2), .un, .un] [(l_85, .ls (List.map dI c120))]
        obtain ⟨t157, q158, h2⟩ := bindS h2
        refine wp_if (et_test (ev_op (ev_someU (f := dI) (ev_var (i := 10) rfl)) (ev_call (ea_cons (ev_var (i := 4) rfl) (ea_cons (ev_var (i := 5) rfl) (ea_cons (ev_var (i := 6) rfl) (ea_cons (ev_var (i := 8) rfl) (ea_cons (ev_var (i := 9) rfl) ea_nil))))) ⟨_, ⟨_, _, _, _, _, _, q158, rfl, rfl, rfl⟩, fun _ _ h => h⟩) (rr_ne (f := (dU (dO dI))) (by decide)))) (fun hc => ?_) (fun hc => ?_)
        · have h2 := condT hc h2
          cases h2
          have g2 := ctlK_rt (hret2 _ rfl) h1
          cases g2
          have g1 := ctlK_rt (hret1 _ rfl) h0
          have e0_ := Option.some.inj g1
          subst e0_
          exact wp_retS ev_bl (fin_at (fin_at hfin he1) he2) ⟨rfl, rfl⟩ (List.nil_sublist _)
        · have h2 := condF hc h2
          refine wp_next ?_
          obtain ⟨t159, q160, h2⟩ := bindS h2
          refine wp_if (et_not (et_val (ev_call (ea_cons (ev_var (i := 4) rfl) (ea_cons (ev_var (i := 5) rfl) (ea_cons (ev_var (i := 9) rfl) (ea_cons (ev_var (i := 10) rfl) ea_nil)))) ⟨_, ⟨_, _, _, _, _, q160, rfl, rfl, rfl⟩, fun _ _ h => h⟩))) (fun hc => ?_) (fun hc => ?_)
          · have h2 := condT hc h2
            cases h2
            have g2 := ctlK_rt (hret2 _ rfl) h1
            cases g2
            have g1 := ctlK_rt (hret1 _ rfl) h0
            have e0_ := Option.some.inj g1
            subst e0_
            exact wp_retS ev_bl (fin_at (fin_at hfin he1) he2) ⟨rfl, rfl⟩ (List.nil_sublist _)
          · have h2 := condF hc h2
            refine wp_next ?_
            obtain ⟨t161, q162, h2⟩ := bindS h2
            refine wp_if (et_test (ev_op (show Ev _ _ _ _ (.da ((dO dI) none)) _ from ev_non) (ev_call (ea_cons (ev_var (i := 4) rfl) (ea_cons (ev_var (i := 5) rfl) (ea_cons (ev_var (i := 6) rfl) (ea_cons (ev_var (i := 8) rfl) (ea_cons (ev_var (i := 7) rfl) ea_nil))))) ⟨_, ⟨_, _, _, _, _, _, q162, rfl, rfl, rfl⟩, fun _ _ h => h⟩) (rr_inU (f := (dO dI)) (by decide)))) (fun hc => ?_) (fun hc => ?_)
            · have h2 := condT hc h2
              cases h2
              have g2 := ctlK_rt (hret2 _ rfl) h1
              cases g2
              have g1 := ctlK_rt (hret1 _ rfl) h0
              have e0_ := Option.some.inj g1
              subst e0_
              exact wp_retS ev_bl (fin_at (fin_at hfin he1) he2) ⟨rfl, rfl⟩ (List.nil_sublist _)
            · have h2 := condF hc h2
              refine wp_next ?_
              cases h2
              exact wp_next fun σ H a => (hn2 _ rfl) σ H (at_weak (.cons .rfl (.cons .rfl (.cons .rfl (.cons .rfl (.cons .rfl (.cons .rfl (.cons .rfl (.cons .rfl (.cons .un (.cons .un (.cons .un (.cons .un (.cons .un Wks.nil))))))))))))) a)
      · rintro ⟨⟩ hk_
        have h1 := ctlK_go hk_ h1
        show Wp _ _ _ [.sl l_script v_script, .da (dI v_k3), .rf l_85, .da ((dP dI dI) t92), .da ((dL (dL (dU dI))) t95), .da ((dL (dU dI)) t98), .da ((dL (d3 dI dI dI)) t101), .da ((dL (dL dI)) o121), .un, .un, .un, .un, .un] [(l_85, .ls (List.map dI c120))]
        refine wp_drop 0 ?_
        cases h1
        exact wp_next fun σ H a => (hn1 _ rfl) σ H (at_weak (.cons .rfl (.cons .un (.cons .un (.cons .un (.cons .un (.cons .un (.cons .un (.cons .un (.cons .un (.cons .un (.cons .un (.cons .un (.cons .un Wks.nil))))))))))))) a)
    · rintro ⟨⟩ hk_
      have h0 := ctlK_go hk_ h0
      show Wp _ _ _ [.sl l_script v_script, .un, .un, .un, .un, .un, .un, .un, .un, .un, .un, .un, .un] []
      have e0_ := Option.some.inj h0
      subst e0_
      exact wp_retS ev_bl hfin ⟨rfl, rfl⟩ (List.nil_sublist _)
end K83
set_option maxHeartbeats 400000
namespace K83
open PySem PySem.Spec PyProof.Rows L2 Evl FC
/-! ### handing -/
abbrev HS := (Shares × Str × List Int) × List (List Col)
def pl (c : Col) (p : Nat) : Int := c[p]?.getD 0
def addC (a b : Col) : Col := (List.zip a b).map fun p => p.1 + p.2
def subC (a b : Col) : Col := (List.zip a b).map fun p => p.1 - p.2
theorem pl_zip {k : Int × Int → Int} {a b : Col} {n p : Nat} (ha : a.length = n) (hb : b.length = n) (hp : p < n) : pl ((List.zip a b).map k) p = k (pl a p, pl b p) := by
  have h1 : p < a.length := by omega
  have h2 : p < b.length := by omega
  have h3 : (List.zip a b)[p]? = some (a[p], b[p]) := List.getElem?_zip_eq_some.mpr ⟨List.getElem?_eq_getElem h1, List.getElem?_eq_getElem h2⟩
  unfold pl
  rw [List.getElem?_map, h3, List.getElem?_eq_getElem h1, List.getElem?_eq_getElem h2]
  rfl
theorem zipC_len {k : Int × Int → Int} {a b : Col} {n : Nat} (ha : a.length = n) (hb : b.length = n) : ((List.zip a b).map k).length = n := by
  rw [List.length_map, List.length_zip, ha, hb, Nat.min_self]
theorem side_eq (s : Shares × Str × List Int) (wd : List (List Col)) (r : Int) : m_Handing_side_of s wd r = some (sideF s.2.1 r) := by
  refine Ok.eq ?_
  unfold m_Handing_side_of sideF
  refine Ok.bind (P := fun b => b = decide (s.2.1 = Str.ofString "turned" ∧ r % 2 = 1)) (ok_cond (fun h => ok_mod (by omega) fun _ _ => Ok.mk ?_) fun h => Ok.mk ?_) ?_
  · have h1 := of_decide_eq_true h
    simp [h1]
  · have h1 := of_decide_eq_false h
    simp [h1]
  · rintro b rfl
    exact ok_cond (fun h => Ok.mk (by rw [if_pos (of_decide_eq_true h)])) fun h => Ok.mk (by rw [if_neg (of_decide_eq_false h)])
theorem colF_len {way : Str} {W : Nat} {r : Int} : (colF way W r).length = W := by
  unfold colF
  split
  · rw [rng_len]
    omega
  · rw [List.length_reverse, rng_len]
    omega
theorem stp_col {way : Str} {W : Nat} {r : Int} : stpI (rng 0 (W : Int)) none none (sideF way r) = some (colF way W r) := by
  unfold colF
  rcases side_or way r with e | e
  · rw [if_pos e, e, stp_one]
  · rw [if_neg (by rw [e]; decide), e, stp_rev]
theorem enum_at {α : Type} {xs : List α} {q r : List (Int × α)} {i : Int} {x : α} (h : enumI xs = q ++ (i, x) :: r) : i = (q.length : Int) ∧ xs[q.length]? = some x := by
  have h1 := congrArg (fun l => l[q.length]?) h
  have h2 : (q ++ (i, x) :: r)[q.length]? = some (i, x) := by
    rw [List.getElem?_append_right (Nat.le_refl _), Nat.sub_self]
    rfl
  have h3 : (enumI xs)[q.length]? = some (i, x) := h1.trans h2
  unfold enumI at h3
  rw [List.getElem?_map, List.getElem?_zipIdx] at h3
  cases e : xs[q.length]? with
  | none => rw [e] at h3; cases h3
  | some y =>
    rw [e] at h3
    have h4 := Option.some.inj h3
    have h5 : (((0 + q.length : Nat) : Int), y) = (i, x) := h4
    rw [Prod.mk.injEq] at h5
    exact ⟨by omega, by rw [h5.2]⟩
theorem enum_len {α : Type} (xs : List α) : (enumI xs).length = xs.length := by
  unfold enumI
  rw [List.length_map, List.length_zipIdx]
theorem spots_eq {H W : Nat} (hH : H ≤ 1000) (hW : W ≤ 1000) {s : Shares × Str × List Int} {wd : List (List Col)} (h : Rect H W wd) : m_Handing_spots_in_turn s wd = some (spF H W s.2.1) := by
  refine Ok.eq ?_
  unfold m_Handing_spots_in_turn
  refine Ok.bind (ok_for (fun q (c : List Spot) => c.length = q.length * W ∧ c = q.flatMap fun x => (colF s.2.1 W x.1).map fun y => (x.1, y)) ⟨(Nat.zero_mul _).symm, rfl⟩ ?_) ?_
  · rintro q ⟨r, sp⟩ l c e ⟨i1, i2⟩
    have hq : q.length < H := by
      have h1 := congrArg List.length e
      rw [enum_len, h.1, List.length_append, List.length_cons] at h1
      omega
    have hq2 : q.length * W ≤ 1000 * 1000 := Nat.mul_le_mul (by omega) hW
    have hm : sp.length = W := h.2 sp (List.mem_of_getElem? (enum_at e).2)
    have hl : (rng 0 (sp.length : Int)).length = W := by rw [rng_len]; omega
    dsimp only
    refine ok_rng (by omega) (by omega) (ok_len (by omega) (Ok.of (side_eq _ _ _) (Ok.of (a := colF s.2.1 W r) (by rw [hm]; exact stp_col) (ok_len (by rw [colF_len]; omega) (ok_len (by rw [List.length_map, colF_len]; omega) (Ok.mk ⟨?_, ?_⟩))))))
    · rw [List.length_append, List.length_append, List.length_map, colF_len, i1, Nat.add_mul, List.length_singleton, Nat.one_mul]
    · rw [List.flatMap_append, i2]
      show _ ++ _ = _ ++ (List.map _ (colF s.2.1 W r) ++ [])
      rw [List.append_nil]
  · rintro c ⟨_, i2⟩
    refine Ok.mk ?_
    rw [i2, enumI_eq [], List.flatMap_map, h.1]
    rfl
theorem tk_snoc (q : Shares) (s : Int × Int × Int) (way : Str) (H W : Nat) (f : Spot) : tkF (q ++ [s]) way H W f = if tkOk H W way f s = true then tkF q way H W f ++ [(tkOne way f s, s.2.2)] else tkF q way H W f := by
  unfold tkF
  rw [List.filter_append, List.map_append]
  split
  · rename_i e
    rw [List.filter_cons_of_pos e]
    rfl
  · rename_i e
    rw [List.filter_cons_of_neg e]
    exact List.append_nil _
theorem takers_eq {H W : Nat} (hH0 : 0 < H) {s : Shares × Str × List Int} {wd : List (List Col)} (h : Rect H W wd) (hs : Sh s.1) (f : Spot) : m_Handing_takers s wd f.1 f.2 = some (tkF s.1 s.2.1 H W f) := by
  obtain ⟨rfl, h2⟩ := h
  refine Ok.eq ?_
  unfold m_Handing_takers
  refine Ok.bind (ok_for (fun q (c : List (Spot × Int)) => c.length ≤ q.length ∧ c = tkF q s.2.1 wd.length W f) ⟨Nat.le_refl _, rfl⟩ ?_) fun c e => Ok.mk e.2
  rintro q ⟨a, d, p⟩ l c e ⟨i1, i2⟩
  have ha := (hs.ok (a, d, p) (by rw [e]; simp)).2.1
  have ha' : -2 ≤ a ∧ a ≤ 2 := ha
  have hq : q.length < 12 := by
    have h1 := congrArg List.length e
    have := hs.len
    rw [List.length_append, List.length_cons] at h1
    omega
  refine Ok.of (side_eq _ _ _) (ok_mul (mulOk_l ⟨by omega, by omega⟩) (Ok.of rfl (Ok.bind (P := fun b => b = tkOk wd.length W s.2.1 f (a, d, p)) (ok_cond (fun h1 => Ok.bind (P := fun b => b = (decide (0 ≤ (tkOne s.2.1 f (a, d, p)).2) && decide ((tkOne s.2.1 f (a, d, p)).2 < W))) (ok_cond (fun h3 => ?_) fun h3 => Ok.mk ?_) fun b hb => Ok.mk ?_) fun h1 => Ok.mk ?_) ?_)))
  · refine ok_get (by omega) (by omega) fun x _ hx => Ok.mk ?_
    rw [h2 x hx]
    show _ = (decide (0 ≤ f.2 + a * sideF s.2.1 f.1) && _)
    rw [show decide (0 ≤ f.2 + a * sideF s.2.1 f.1) = true from h3]
    rfl
  · show false = (decide (0 ≤ f.2 + a * sideF s.2.1 f.1) && _)
    rw [show decide (0 ≤ f.2 + a * sideF s.2.1 f.1) = false from h3]
    rfl
  · rw [hb]
    show _ = (decide (f.1 + d < (wd.length : Int)) && _)
    rw [show decide (f.1 + d < (wd.length : Int)) = true from h1]
    rfl
  · show false = (decide (f.1 + d < (wd.length : Int)) && _)
    rw [show decide (f.1 + d < (wd.length : Int)) = false from h1]
    rfl
  · intro b hb
    refine Ok.bind (P := fun c' : List (Spot × Int) => c'.length ≤ (q ++ [(a, d, p)]).length ∧ c' = tkF (q ++ [(a, d, p)]) s.2.1 wd.length W f) (ok_cond (fun h1 => ok_len (by omega) (Ok.mk ⟨?_, ?_⟩)) fun h1 => Ok.mk ⟨?_, ?_⟩) fun c' h => Ok.mk h
    · rw [List.length_append, List.length_append]
      exact Nat.add_le_add_right i1 1
    · rw [tk_snoc, if_pos (hb ▸ h1), i2]
      rfl
    · rw [List.length_append]
      omega
    · rw [tk_snoc, if_neg (by rw [← hb, h1]; decide), i2]
theorem more_eq {H W n : Nat} (hn : n ≤ 16) {s : Shares × Str × List Int} {wd : List (List Col)} (h : Rect H W wd) {f : Spot} (hf : Inn H W f) (hl : (at_ [] wd f).length = n) (more : Col) : m_Handing_more_at s wd f more = some ((), put wd f (addC (at_ [] wd f) more)) := by
  refine Ok.eq ?_
  unfold m_Handing_more_at
  exact Ok.of (nget_at (d := []) h hf) (ok_len (by rw [List.length_zip]; omega) (Ok.of (nset_put h hf) (Ok.mk rfl)))
structure HOk (H W n : Nat) (sh : Shares) (way : Str) (st : HS) : Prop where
  sh : st.1.1 = sh
  way : st.1.2.1 = way
  lost : st.1.2.2.length = n
  rect : Rect H W st.2
  col : ∀ g, Inn H W g → (at_ [] st.2 g).length = n
def rp (st : HS) (f : Spot) (c : Col) (p : Nat) : Int := pl (at_ [] st.2 f) p - pl c p
/-- the pieces of all places: the first one takes what is left -/
theorem given_ok {tk : List (Spot × Int)} {tot : Int} {n : Nat} {rest : Col} (hn : n ≤ 16) (ht : tk ≠ []) (htl : tk.length ≤ 12) (hr : rest.length = n) :
    Ok (forF (fun (s_ : (List (List Int))) => (fun (p_ : (Int × Int)) => (fun (v_place35 : Int) (v_number36 : Int) => (fun (c51 : (List (List Int))) => ((nget c51 (0 : Int) v_place35).bind fun t63 => ((lenG (List.length c51)).bind fun u68 => ((mapO (fun (v_row_of_one65 : (List Int)) => ((getI v_row_of_one65 v_place35).bind fun t66 => some t66)) c51).bind fun o70 => ((nset c51 (0 : Int) v_place35 (t63 + (v_number36 - (List.sum o70)))).bind fun c72 => some c72))))) s_) p_.1 p_.2)) (tk.map fun t => rest.map fun x => x * t.2 / tot) (enumI rest))
      fun G => Rect tk.length n G ∧ ∀ p, p < n → G.map (fun row => pl row p) = VP tk tot (pl rest p) := by
  have pm : ∀ p, p < n → ∀ t : Spot × Int, pl (rest.map fun x => x * t.2 / tot) p = pl rest p * t.2 / tot := fun p hp t => by
    unfold pl
    rw [List.getElem?_map, List.getElem?_eq_getElem (by omega)]
    rfl
  refine (ok_for (fun q (G : List Col) => Rect tk.length n G ∧ ∀ p, p < n → G.map (fun row => pl row p) = if p < q.length then VP tk tot (pl rest p) else tk.map fun t => pl rest p * t.2 / tot) ⟨⟨by rw [List.length_map], fun r hr' => ?_⟩, fun p hp => ?_⟩ ?_).mono ?_
  · obtain ⟨t, _, rfl⟩ := List.mem_map.mp hr'
    rw [List.length_map]
    exact hr
  · rw [List.length_nil, if_neg (Nat.not_lt_zero p), List.map_map]
    exact List.map_congr_left fun t _ => pm p hp t
  · rintro q ⟨i, x⟩ l G e ⟨g1, g2⟩
    obtain ⟨hi, hx⟩ := enum_at e
    have hjr : q.length < rest.length := (List.getElem?_eq_some_iff.mp hx).1
    have hj : q.length < n := by omega
    have hxp : pl rest q.length = x := by
      unfold pl
      rw [hx]
      rfl
    have h0 : 0 < tk.length := List.length_pos_iff.mpr ht
    have hin : Inn tk.length n ((0 : Int), i) := ⟨by show (0 : Int) ≤ 0; omega, by show (0 : Int) < _; omega, by show 0 ≤ i; omega, by show i < n; omega⟩
    cases G with
    | nil =>
      have := g1.1
      rw [List.length_nil] at this
      omega
    | cons row rows =>
      have hrow : row.length = n := g1.2 row List.mem_cons_self
      have hcol := g2 q.length hj
      rw [if_neg (Nat.lt_irrefl _)] at hcol
      have hat : at_ 0 (row :: rows) ((0 : Int), i) = pl row q.length := by
        unfold at_ pl
        show row[i.toNat]?.getD 0 = _
        rw [hi, Int.toNat_natCast]
      have hgl : (row :: rows).length ≤ 12 := by
        have := g1.1
        omega
      refine Ok.of (nget_at (d := 0) g1 hin) (ok_len (by omega) (Ok.of (mapO_of (g := fun r => pl r q.length) fun r hr' => ?_) (Ok.of (nset_put g1 hin) (Ok.mk ⟨rect_put g1 hin, fun p hp => ?_⟩))))
      · have hrl : r.length = n := g1.2 r hr'
        refine Ok.eq (Ok.of (getI_nat (by omega) ?_) (Ok.mk rfl))
        unfold pl
        rw [hi, Int.toNat_natCast, List.getElem?_eq_getElem (by omega)]
        rfl
      · have hput : put (row :: rows) ((0 : Int), i) (at_ 0 (row :: rows) ((0 : Int), i) + (x - ((row :: rows).map fun r => pl r q.length).sum)) = row.set q.length (pl row q.length + (x - ((row :: rows).map fun r => pl r q.length).sum)) :: rows := by
          rw [hat]
          unfold put
          show (row.set i.toNat _) :: rows = _
          rw [hi, Int.toNat_natCast]
        rw [hput, hcol, List.map_cons, List.length_append, List.length_singleton]
        have hset : ∀ y, pl (row.set q.length y) p = if p = q.length then y else pl row p := fun y => by
          unfold pl
          rw [List.getElem?_set]
          by_cases e2 : q.length = p
          · rw [if_pos e2, if_pos (by omega), if_pos e2.symm]
            rfl
          · rw [if_neg e2, if_neg fun z => e2 z.symm]
        rw [hset]
        by_cases e2 : p = q.length
        · subst e2
          rw [if_pos rfl, if_pos (Nat.lt_succ_self _)]
          rw [List.map_cons] at hcol
          unfold VP
          rw [hxp]
          rw [hxp] at hcol
          rw [← hcol]
          rfl
        · rw [if_neg e2]
          have h3 := g2 p hp
          rw [List.map_cons] at h3
          rw [h3]
          by_cases e3 : p < q.length
          · rw [if_pos e3, if_pos (by omega)]
          · rw [if_neg e3, if_neg (by omega)]
  · rintro G ⟨g1, g2⟩
    refine ⟨g1, fun p hp => ?_⟩
    rw [g2 p hp, if_pos (by rw [enum_len, hr]; exact hp)]
theorem pl_nil (p : Nat) : pl [] p = 0 := rfl
theorem tell_ok {H W n : Nat} (hH0 : 0 < H) (hn : n ≤ 16) {sh : Shares} {way : Str} (hs : Sh sh) {st : HS} (hst : HOk H W n sh way st) {f : Spot} (hf : Inn H W f) {c : Col} (hc : c.length = n) :
    Ok (m_Handing_tell st.1 st.2 f.1 f.2 c) fun r => HOk H W n sh way r.2 ∧ (∀ p, p < n → pl r.2.1.2.2 p = pl st.1.2.2 p + (if tkF sh way H W f = [] then rp st f c p else 0)) ∧ ∀ g p, Inn H W g → p < n → pl (at_ [] r.2.2 g) p = pl (at_ [] st.2 g) p + con g (tkF sh way H W f) (VP (tkF sh way H W f) (totF sh) (rp st f c p)) := by
  obtain ⟨⟨sh', way', lost⟩, wd⟩ := st
  obtain ⟨e1, e2, hl, hr, hcol⟩ := hst
  dsimp only at e1 e2 hl hr hcol ⊢
  subst e1 e2
  have hfl := hcol f hf
  have hrl : (subC (at_ [] wd f) c).length = n := zipC_len hfl hc
  have hrp : ∀ p, p < n → pl (subC (at_ [] wd f) c) p = rp ((sh', way', lost), wd) f c p := fun p hp => pl_zip hfl hc hp
  unfold m_Handing_tell
  refine Ok.of (nget_at (d := []) hr hf) (ok_len (by rw [List.length_zip]; omega) (Ok.of (a := subC (at_ [] wd f) c) rfl (Ok.of (takers_eq hH0 hr hs f) (ok_cond (fun h0 => ?_) fun h0 => ?_))))
  · have h1 : tkF sh' way' H W f = [] := List.length_eq_zero_iff.mp (by have h2 : ((tkF sh' way' H W f).length : Int) = 0 := of_decide_eq_true h0; omega)
    refine ok_len (by rw [List.length_zip]; omega) (Ok.of (a := addC lost (subC (at_ [] wd f) c)) rfl (Ok.mk ⟨⟨rfl, rfl, zipC_len hl hrl, hr, hcol⟩, fun p hp => ?_, fun g p _ _ => ?_⟩))
    · rw [if_pos h1, ← hrp p hp]
      exact pl_zip hl hrl hp
    · show _ = _ + con g (tkF sh' way' H W f) _
      rw [h1]
      exact (Int.add_zero _).symm
  · have h1 : tkF sh' way' H W f ≠ [] := fun z => by
      have := of_decide_eq_false h0
      show False
      exact this (by show ((tkF sh' way' H W f).length : Int) = 0; rw [z]; rfl)
    have hlen := tk_len (way := way') (H := H) (W := W) (f := f) hs
    have htot := tk_tot hs hf h1
    have htot2 := totF_le hs
    have hsl := hs.len
    refine ok_len (by show sh'.length ≤ _; omega) (Ok.of (a := totF sh') rfl (ok_len (by show (tkF sh' way' H W f).length ≤ _; omega) (Ok.of (mapO_of (g := fun t : Spot × Int => (subC (at_ [] wd f) c).map fun x => x * t.2 / totF sh') fun t ht => ?_) (Ok.bind (given_ok hn h1 hlen hrl) ?_))))
    · have h2 := tk_mem hs hf ht
      refine Ok.eq (ok_len (by omega) (Ok.of (mapO_of (g := fun x => x * t.2 / totF sh') fun x _ => ?_) (Ok.mk rfl)))
      exact Ok.eq (ok_mul (mulOk_r ⟨by omega, by omega⟩) (ok_div htot (by omega) (Ok.mk rfl)))
    · rintro G ⟨g1, g2⟩
      refine Ok.bind (ok_for (fun q (w : List (List Col)) => Rect H W w ∧ (∀ g, Inn H W g → (at_ [] w g).length = n) ∧ ∀ g p, Inn H W g → p < n → pl (at_ [] w g) p = pl (at_ [] wd g) p + (q.map fun x : (Spot × Int) × Col => if x.1.1 = g then pl x.2 p else 0).sum) ⟨hr, hcol, fun g p _ _ => (Int.add_zero _).symm⟩ ?_) ?_
      · rintro q ⟨t, more⟩ l w e ⟨w1, w2, w3⟩
        have hz : (t, more) ∈ List.zip (tkF sh' way' H W f) G := by rw [e]; simp
        obtain ⟨z1, z2⟩ := List.of_mem_zip hz
        have hml : more.length = n := g1.2 more z2
        have ht := tk_mem hs hf z1
        refine Ok.of (more_eq hn w1 ht.1 (w2 _ ht.1) more) (Ok.mk ⟨rect_put w1 ht.1, fun g hg => ?_, fun g p hg hp => ?_⟩)
        · rw [at_put w1 ht.1 hg]
          split
          · exact zipC_len (w2 _ ht.1) hml
          · exact w2 g hg
        · rw [at_put w1 ht.1 hg, List.map_append, List.sum_append]
          show _ = _ + (_ + ((if t.1 = g then pl more p else 0) + 0))
          by_cases e2 : g = t.1
          · rw [if_pos e2, if_pos e2.symm, e2]
            have h4 : pl (addC (at_ [] w t.1) more) p = pl (at_ [] w t.1) p + pl more p := pl_zip (w2 _ ht.1) hml hp
            rw [h4, w3 t.1 p ht.1 hp]
            omega
          · rw [if_neg e2, if_neg fun z => e2 z.symm, w3 g p hg hp]
            omega
      · rintro w ⟨w1, w2, w3⟩
        refine Ok.mk ⟨⟨rfl, rfl, hl, w1, w2⟩, fun p _ => ?_, fun g p hg hp => ?_⟩
        · rw [if_neg h1]
          exact (Int.add_zero _).symm
        · show pl (at_ [] w g) p = _
          rw [w3 g p hg hp, ← hrp p hp, ← g2 p hp]
          unfold con
          rw [List.zip_map_right, List.map_map]
          rfl
/-! #### many turns -/
noncomputable def tl (st : HS) (f : Spot) (c : Col) : HS := ((m_Handing_tell st.1 st.2 f.1 f.2 c).map fun r => r.2).getD st
def cT (pal : List Col) (T : List (List Int)) (f : Spot) : Col := pal[(at_ 0 T f).toNat]?.getD []
noncomputable def run (pal : List Col) (T : List (List Int)) (st : HS) (q : List Spot) : HS := q.foldl (fun st f => tl st f (cT pal T f)) st
section
variable {H W n : Nat} {sh : Shares} {way : Str} {st : HS} {f g : Spot} {c : Col} {pal : List Col} {T : List (List Int)} {q l : List Spot} {p : Nat}
theorem tell_eq (hH0 : 0 < H) (hn : n ≤ 16) (hs : Sh sh) (hst : HOk H W n sh way st) (hf : Inn H W f) (hc : c.length = n) :
    m_Handing_tell st.1 st.2 f.1 f.2 c = some ((), tl st f c) ∧ HOk H W n sh way (tl st f c) ∧ (∀ p, p < n → pl (tl st f c).1.2.2 p = pl st.1.2.2 p + (if tkF sh way H W f = [] then rp st f c p else 0)) ∧ ∀ g p, Inn H W g → p < n → pl (at_ [] (tl st f c).2 g) p = pl (at_ [] st.2 g) p + con g (tkF sh way H W f) (VP (tkF sh way H W f) (totF sh) (rp st f c p)) := by
  obtain ⟨r, h1, h2⟩ := tell_ok hH0 hn hs hst hf hc
  have e : tl st f c = r.2 := by
    unfold tl
    rw [h1]
    rfl
  rw [e]
  exact ⟨h1, h2⟩
theorem run_snoc : run pal T st (q ++ [f]) = tl (run pal T st q) f (cT pal T f) := by
  unfold run
  rw [List.foldl_append]
  rfl
theorem run_ok (hH0 : 0 < H) (hn : n ≤ 16) (hs : Sh sh) (hst : HOk H W n sh way st) : ∀ {q : List Spot}, (∀ f ∈ q, Inn H W f ∧ (cT pal T f).length = n) → HOk H W n sh way (run pal T st q) := by
  intro q
  induction q generalizing st with
  | nil => exact fun _ => hst
  | cons f q ih =>
    intro h
    have hf := h f List.mem_cons_self
    exact ih (tell_eq hH0 hn hs hst hf.1 hf.2).2.1 fun x hx => h x (List.mem_cons_of_mem _ hx)
theorem run_keep (hH0 : 0 < H) (hn : n ≤ 16) (hs : Sh sh) (hg : Inn H W g) (hp : p < n) : ∀ {l : List Spot} {st : HS}, HOk H W n sh way st → (∀ f ∈ l, Inn H W f ∧ (cT pal T f).length = n) → (∀ f ∈ l, ∀ t ∈ tkF sh way H W f, t.1 ≠ g) → pl (at_ [] (run pal T st l).2 g) p = pl (at_ [] st.2 g) p
  | [], _, _, _, _ => rfl
  | f :: l, st, hst, h, hk => by
    have hf := h f List.mem_cons_self
    obtain ⟨_, t1, _, t3⟩ := tell_eq hH0 hn hs hst hf.1 hf.2
    have ih := run_keep hH0 hn hs hg hp (l := l) t1 (fun x hx => h x (List.mem_cons_of_mem _ hx)) fun x hx => hk x (List.mem_cons_of_mem _ hx)
    refine ih.trans ?_
    rw [t3 g p hg hp, con_none (hk f List.mem_cons_self)]
    omega
/-- each one's takers come later -/
def Later (sh : Shares) (way : Str) (H W : Nat) : List Spot → Prop
  | [] => True
  | f :: l => f ∉ l ∧ (∀ t ∈ tkF sh way H W f, t.1 ∈ l) ∧ Later sh way H W l
theorem later_sp (hs : Sh sh) : ∀ {l q : List Spot}, spF H W way = q ++ l → Later sh way H W l
  | [], _, _ => True.intro
  | f :: l, q, h => by
    have hf : Inn H W f := mem_spF.mp (by rw [h]; simp)
    refine ⟨?_, fun t ht => ?_, later_sp hs (q := q ++ [f]) (by rw [h, List.append_assoc]; rfl)⟩
    · have nd := spF_nd H W way
      rw [h] at nd
      exact (List.nodup_cons.mp (List.nodup_append.mp nd).2.1).1
    · have := tk_mem hs hf ht
      exact spF_later h this.1 this.2.1
theorem later_nd : ∀ {l : List Spot}, Later sh way H W l → l.Nodup
  | [], _ => List.nodup_nil
  | f :: l, h => List.nodup_cons.mpr ⟨h.1, later_nd h.2.2⟩
theorem later_no : ∀ {l : List Spot}, Later sh way H W l → g ∉ l → ∀ f ∈ l, ∀ t ∈ tkF sh way H W f, t.1 ≠ g
  | [], _, _, _, hf => by cases hf
  | x :: l, h, hg, f, hf => by
    intro t ht e
    rcases List.mem_cons.mp hf with z | z
    · subst z
      exact hg (List.mem_cons_of_mem _ (e ▸ h.2.1 t ht))
    · exact later_no h.2.2 (fun z2 => hg (List.mem_cons_of_mem _ z2)) f z t ht e
/-- nothing is lost on the way -/
theorem consv (hH0 : 0 < H) (hn : n ≤ 16) (hs : Sh sh) (hp : p < n) : ∀ {l : List Spot} {st : HS}, HOk H W n sh way st → (∀ f ∈ l, Inn H W f ∧ (cT pal T f).length = n) → Later sh way H W l →
    (l.map fun g => pl (at_ [] st.2 g) p).sum + pl st.1.2.2 p = (l.map fun f => pl (cT pal T f) p).sum + pl (run pal T st l).1.2.2 p
  | [], _, _, _, _ => rfl
  | f :: l, st, hst, h, hk => by
    have hf := h f List.mem_cons_self
    obtain ⟨_, t1, t2, t3⟩ := tell_eq hH0 hn hs hst hf.1 hf.2
    have hl : ∀ x ∈ l, Inn H W x ∧ (cT pal T x).length = n := fun x hx => h x (List.mem_cons_of_mem _ hx)
    have ih := consv hH0 hn hs hp (l := l) t1 hl hk.2.2
    have e1 : (l.map fun g => pl (at_ [] (tl st f (cT pal T f)).2 g) p).sum = (l.map fun g => pl (at_ [] st.2 g) p).sum + (VP (tkF sh way H W f) (totF sh) (rp st f (cT pal T f) p)).sum := by
      rw [sum_congr (b := fun g => pl (at_ [] st.2 g) p + con g (tkF sh way H W f) (VP (tkF sh way H W f) (totF sh) (rp st f (cT pal T f) p))) fun g hg => t3 g p (hl g hg).1 hp, sum_add, con_sum (later_nd hk.2.2) (VP_len _ _ _) hk.2.1]
    have e2 := t2 p hp
    have e3 : run pal T st (f :: l) = run pal T (tl st f (cT pal T f)) l := rfl
    rw [List.map_cons, List.map_cons, List.sum_cons, List.sum_cons, e3]
    have e4 : rp st f (cT pal T f) p = pl (at_ [] st.2 f) p - pl (cT pal T f) p := rfl
    by_cases e5 : tkF sh way H W f = []
    · rw [if_pos e5] at e2
      rw [e5] at e1
      have e6 : (VP [] (totF sh) (rp st f (cT pal T f) p)).sum = 0 := rfl
      omega
    · rw [if_neg e5] at e2
      have e6 := VP_sum (tot := totF sh) (r := rp st f (cT pal T f) p) e5
      omega
end
/-! ### handon -/
structure PicOk (H W n : Nat) (pic : Pic) : Prop where
  rect : Rect H W pic
  good : ∀ r ∈ pic, ∀ c ∈ r, Good n c
def st0 (sh : Shares) (way : Str) (n : Nat) (pic : Pic) : HS := ((sh, way, List.replicate n 0), pic)
def TOk (H W : Nat) (pal : List Col) (T : List (List Int)) : Prop := Rect H W T ∧ ∀ f, Inn H W f → 0 ≤ at_ 0 T f ∧ at_ 0 T f < pal.length
section
variable {H W n : Nat} {sh : Shares} {way : Str} {pic : Pic} {pal : List Col} {T : List (List Int)} {f : Spot}
theorem PicOk.at (h : PicOk H W n pic) (hf : Inn H W f) : Good n (at_ [] pic f) := by
  obtain ⟨r, h1, h2⟩ := at_mem (d := ([] : Col)) h.rect hf
  exact h.good r h1 _ h2
theorem st0_ok (h : PicOk H W n pic) : HOk H W n sh way (st0 sh way n pic) := ⟨rfl, rfl, List.length_replicate, h.rect, fun g hg => (h.at hg).1⟩
theorem rep_eq {k : Nat} (hk : k ≤ 16) : repI [(0 : Int)] (k : Int) = some (List.replicate k 0) := by
  unfold repI
  rw [if_pos ⟨by omega, by omega, by rw [List.length_singleton, Int.toNat_natCast]; omega⟩, Int.toNat_natCast, List.flatten_replicate_singleton]
theorem init_eq (hH0 : 0 < H) (hW0 : 0 < W) (hH : H ≤ 16) (hn : n ≤ 16) (h : PicOk H W n pic) : m_Handing_init pic sh way = some (st0 sh way n pic) := by
  refine Ok.eq ?_
  unfold m_Handing_init
  have hr := h.rect
  refine ok_len (by rw [hr.1]; omega) (Ok.of (a := pic) (by rw [mapO_of (g := fun r => r) fun _ _ => rfl, List.map_id']) (ok_get (by omega) (by rw [hr.1]; omega) fun r _ hr' => ok_get (by omega) (by rw [hr.2 r hr']; omega) fun c _ hc => ?_))
  have hcl := (h.good r hr' c hc).1
  refine Ok.of (a := List.replicate n 0) ?_ (Ok.mk rfl)
  rw [hcl]
  exact rep_eq hn
theorem cT_good (hp : ∀ c ∈ pal, Good n c) (hT : TOk H W pal T) (hf : Inn H W f) : pal[(at_ 0 T f).toNat]? = some (cT pal T f) ∧ Good n (cT pal T f) := by
  obtain ⟨h1, h2⟩ := hT.2 f hf
  have hl : (at_ 0 T f).toNat < pal.length := by omega
  unfold cT
  rw [List.getElem?_eq_getElem hl]
  exact ⟨rfl, hp _ (List.getElem_mem hl)⟩
theorem all_sp (hp : ∀ c ∈ pal, Good n c) (hT : TOk H W pal T) {q : List Spot} (hq : ∀ f ∈ q, f ∈ spF H W way) : ∀ f ∈ q, Inn H W f ∧ (cT pal T f).length = n := fun f hf => ⟨mem_spF.mp (hq f hf), (cT_good hp hT (mem_spF.mp (hq f hf))).2.1⟩
theorem wanted_eq (hH0 : 0 < H) (hW0 : 0 < W) (hH : H ≤ 16) (hW : W ≤ 16) (hn : n ≤ 16) (hs : Sh sh) (h : PicOk H W n pic) (hp : ∀ c ∈ pal, Good n c) (hT : TOk H W pal T) : m_wanted_by pic pal sh way T = some (run pal T (st0 sh way n pic) (spF H W way)).2 := by
  refine Ok.eq ?_
  unfold m_wanted_by
  refine Ok.of (init_eq hH0 hW0 hH hn h) (Ok.of (spots_eq (by omega) (by omega) h.rect) (Ok.bind (ok_for (fun q (s : HS) => s = run pal T (st0 sh way n pic) q) rfl ?_) ?_))
  · rintro q ⟨r, c⟩ l s e rfl
    have hin : ∀ x ∈ q ++ [(r, c)], x ∈ spF H W way := fun x hx => by
      have e' : spF H W way = q ++ (r, c) :: l := e
      rw [e']
      rcases List.mem_append.mp hx with z | z
      · exact List.mem_append_left _ z
      · rw [List.mem_singleton.mp z]
        simp
    have hf : Inn H W (r, c) := mem_spF.mp (hin _ (by simp))
    have hk := run_ok (pal := pal) (T := T) (q := q) hH0 hn hs (st0_ok (sh := sh) (way := way) h) (all_sp hp hT fun x hx => hin x (List.mem_append_left _ hx))
    obtain ⟨row, g1, g2, _⟩ := get_rowG (d := 0) hT.1 hf
    obtain ⟨c1, c2⟩ := cT_good hp hT hf
    have ht := (tell_eq hH0 hn hs hk hf c2.1).1
    exact Ok.of g1 (Ok.of g2 (Ok.of (getI_nat (hT.2 _ hf).1 c1) (Ok.of ht (Ok.mk run_snoc.symm))))
  · rintro s rfl
    have hk := run_ok (pal := pal) (T := T) (q := spF H W way) hH0 hn hs (st0_ok (sh := sh) (way := way) h) (all_sp hp hT fun x hx => hx)
    refine ok_len (by show (run pal T (st0 sh way n pic) (spF H W way)).2.length ≤ _; rw [hk.rect.1]; omega) (Ok.mk ?_)
    exact List.map_id' _
/-! #### the nearest of a colour of any size -/
theorem log_lt {M : Nat} {x : Int} (h : x.natAbs < 2 ^ M) (hM : 0 < M) : x.natAbs.log2 < M := by
  by_cases h0 : x.natAbs = 0
  · rw [h0]
    exact hM
  · exact (Nat.log2_lt h0).mpr h
theorem apartW (hn : n ≤ 16) {a b : Col} (ha : Good n a) (hb : b.length = n) (hx : ∀ x ∈ b, x.natAbs < 2 ^ 3000) : m_apart a b = some (ap a b) := by
  refine Ok.eq ?_
  unfold m_apart
  refine ok_len (by rw [List.length_zip, ha.1, hb, Nat.min_self]; omega) (Ok.of (mapO_of (g := fun p : Int × Int => (p.1 - p.2) * (p.1 - p.2)) fun p hp => ?_) (Ok.mk rfl))
  have h1 := ha.2 p.1 (List.of_mem_zip hp).1
  have h2 := hx p.2 (List.of_mem_zip hp).2
  have h3 : (p.1 - p.2).natAbs < 2 ^ 3001 := by
    have e : (2 : Nat) ^ 3001 = 2 ^ 3000 + 2 ^ 3000 := by
      rw [Nat.pow_succ]
      omega
    have g : (1000 : Nat) < 2 ^ 3000 := by decide
    generalize (2 : Nat) ^ 3000 = M at *
    rw [e]
    omega
  have h4 := log_lt h3 (by decide)
  refine Ok.eq (ok_mul (.inr ?_) (Ok.mk rfl))
  show _ + _ < 1000000
  omega
theorem nearestW (hn : n ≤ 16) {c : Col} (hp : ∀ a ∈ pal, Good n a) (hl : pal.length ≤ 16000000) (h0 : pal ≠ []) (hc : c.length = n) (hx : ∀ x ∈ c, x.natAbs < 2 ^ 3000) : m_nearest pal c = some (ne pal c) := by
  refine Ok.eq ?_
  unfold m_nearest
  refine Ok.of (a := sq pal c) ?_ (Ok.of (near h0).1 (Ok.mk rfl))
  refine Ok.eq ?_
  unfold m_squares_by
  refine ok_len (by rw [enum_len]; exact hl) (Ok.of (mapO_of (g := fun p : Int × Col => (ap p.2 c, p.1)) fun p hp' => ?_) (Ok.mk rfl))
  exact Ok.eq (Ok.of (apartW hn (hp _ (List.mem_of_getElem? (mem_enumI hp').2)) hc hx) (Ok.mk rfl))
theorem ne_range (h0 : pal ≠ []) (c : Col) : 0 ≤ ne pal c ∧ ne pal c < pal.length := mem_rng.mp (near (c := c) h0).2.mem
def BOk (H W n : Nat) (b : Int) (st : HS) : Prop := ∀ g p, Inn H W g → p < n → -b ≤ pl (at_ [] st.2 g) p ∧ pl (at_ [] st.2 g) p ≤ b
theorem good_pl {c : Col} (h : Good n c) (p : Nat) : 0 ≤ pl c p ∧ pl c p < 1000 := by
  unfold pl
  cases e : c[p]? with
  | none => exact ⟨Int.le_refl _, by show (0 : Int) < 1000; decide⟩
  | some x => exact h.2 x (List.mem_of_getElem? e)
theorem bok_tell (hH0 : 0 < H) (hn : n ≤ 16) (hs : Sh sh) {st : HS} (hst : HOk H W n sh way st) (hf : Inn H W f) {c : Col} (hc : Good n c) {b : Int} (hb : 1000 ≤ b) (h : BOk H W n b st) : BOk H W n (b * 1000) (tl st f c) := fun g p hg hp => by
  obtain ⟨_, _, _, t3⟩ := tell_eq hH0 hn hs hst hf hc.1
  rw [t3 g p hg hp]
  have h1 := h g p hg hp
  have h2 := h f p hf hp
  have h3 := good_pl hc p
  have h4 : rp st f c p = pl (at_ [] st.2 f) p - pl c p := rfl
  have h5 := VP_bound (tk := tkF sh way H W f) (tot := totF sh) (r := rp st f c p) (b := b + 1000) (tk_len hs) (fun t ht => by have := tk_mem hs hf ht; omega) (by omega)
  have h6 := con_bound (g := g) (b := 14 * (b + 1000)) (by omega) (tk_len (way := way) (H := H) (W := W) (f := f) hs) h5
  omega
theorem handed_ok (hH0 : 0 < H) (hW0 : 0 < W) (hH : H ≤ 16) (hW : W ≤ 16) (hn : n ≤ 16) (hs : Sh sh) (h : PicOk H W n pic) (hp : ∀ c ∈ pal, Good n c) (hl : pal.length ≤ 16000000) (h0 : pal ≠ []) : Ok (m_handed_on pic pal sh way) fun r => TOk H W pal r.1 ∧ r.2 = (run pal r.1 (st0 sh way n pic) (spF H W way)).1.2.2 := by
  unfold m_handed_on
  have hr := h.rect
  refine Ok.of (init_eq hH0 hW0 hH hn h) (ok_len (by rw [hr.1]; omega) (Ok.of (mapO_of (g := fun r => List.replicate W 0) fun r hr' => ?_) (Ok.of (spots_eq (by omega) (by omega) h.rect) (Ok.bind (ok_for (fun q (s : (Shares × Str × List Int) × List (List Col) × List (List Int)) => Rect H W s.2.2 ∧ (∀ f ∈ q, 0 ≤ at_ 0 s.2.2 f ∧ at_ 0 s.2.2 f < pal.length) ∧ (∀ T', (∀ f ∈ q, at_ 0 T' f = at_ 0 s.2.2 f) → run pal T' (st0 sh way n pic) q = (s.1, s.2.1)) ∧ HOk H W n sh way (s.1, s.2.1) ∧ BOk H W n (1000 ^ (q.length + 1)) (s.1, s.2.1)) ⟨⟨?_, ?_⟩, ?_, fun _ _ => rfl, st0_ok h, ?_⟩ ?_) ?_))))
  · refine Ok.eq (Ok.of (a := List.replicate W 0) ?_ (Ok.mk rfl))
    rw [hr.2 r hr']
    exact rep_eq hW
  · show (List.map _ pic).length = H
    rw [List.length_map]
    exact hr.1
  · intro r hr'
    obtain ⟨_, _, rfl⟩ := List.mem_map.mp hr'
    exact List.length_replicate
  · intro f hf
    cases hf
  · intro g p hg hp'
    have := good_pl (h.at hg) p
    show -(1000 ^ 1 : Int) ≤ pl (at_ [] pic g) p ∧ pl (at_ [] pic g) p ≤ 1000 ^ 1
    omega
  · rintro q ⟨r, c⟩ l ⟨a, wd, told⟩ e ⟨i1, i2, i3, i4, i5⟩
    dsimp only at i1 i2 i3 i4 i5 ⊢
    have e' : spF H W way = q ++ (r, c) :: l := e
    have hf : Inn H W (r, c) := mem_spF.mp (by rw [e']; simp)
    have hql : q.length < 256 := by
      have h1 := congrArg List.length e'
      rw [spF_len, List.length_append, List.length_cons] at h1
      have : H * W ≤ 16 * 16 := Nat.mul_le_mul hH hW
      omega
    have hnq : ∀ x ∈ q, x ≠ (r, c) := fun x hx z => by
      have nd := spF_nd H W way
      rw [e'] at nd
      exact (List.nodup_append.mp nd).2.2 x hx (r, c) List.mem_cons_self z
    have hq : ∀ x ∈ q, Inn H W x := fun x hx => mem_spF.mp (by rw [e']; exact List.mem_append_left _ hx)
    have hcl := i4.col _ hf
    have hcx : ∀ x ∈ at_ [] wd (r, c), x.natAbs < 2 ^ 3000 := fun x hx => by
      obtain ⟨p, hp2⟩ := List.mem_iff_getElem?.mp hx
      have hp1 := (List.getElem?_eq_some_iff.mp hp2).1
      have h1 := i5 (r, c) p hf (by rw [← hcl]; exact hp1)
      have h2 : pl (at_ [] wd (r, c)) p = x := by
        unfold pl
        rw [hp2]
        rfl
      have h3 : (1000 : Int) ^ (q.length + 1) ≤ 1000 ^ 257 := by
        have h4 : (1000 : Nat) ^ (q.length + 1) ≤ 1000 ^ 257 := Nat.pow_le_pow_right (by decide) (by omega)
        exact_mod_cast h4
      have h5 : (1000 : Nat) ^ 257 < 2 ^ 3000 := by decide
      have h6 : ((1000 ^ 257 : Nat) : Int) = (1000 : Int) ^ 257 := by norm_cast
      rw [← h6] at h3
      rw [← h2]
      show (pl (at_ [] wd (r, c)) p).natAbs < _
      generalize (1000 : Nat) ^ 257 = M at *
      generalize (2 : Nat) ^ 3000 = M2 at *
      generalize (1000 : Int) ^ (q.length + 1) = b at *
      have h7 : -b ≤ pl (at_ [] wd (r, c)) p ∧ pl (at_ [] wd (r, c)) p ≤ b := h1
      omega
    obtain ⟨k1, k2⟩ := ne_range h0 (at_ [] wd (r, c))
    have hkl : (ne pal (at_ [] wd (r, c))).toNat < pal.length := by omega
    have hcg : Good n pal[(ne pal (at_ [] wd (r, c))).toNat] := hp _ (List.getElem_mem hkl)
    obtain ⟨t0, t1, _, _⟩ := tell_eq hH0 hn hs i4 hf hcg.1
    refine Ok.of (a := at_ [] wd (r, c)) (by unfold m_Handing_wanted_at; exact Ok.eq (Ok.of (nget_at (d := []) i4.rect hf) (Ok.mk rfl))) (Ok.of (nearestW hn hp hl h0 hcl hcx) (Ok.of (nset_put i1 hf) (Ok.of (getI_nat k1 (List.getElem?_eq_getElem hkl)) (Ok.of t0 (Ok.mk ⟨rect_put i1 hf, ?_, ?_, t1, ?_⟩)))))
    · intro x hx
      show 0 ≤ at_ 0 (put told (r, c) _) x ∧ at_ 0 (put told (r, c) _) x < _
      rcases List.mem_append.mp hx with z | z
      · rw [at_put i1 hf (hq x z), if_neg (hnq x z)]
        exact i2 x z
      · rw [List.mem_singleton.mp z, at_put i1 hf hf, if_pos rfl]
        exact ⟨k1, k2⟩
    · intro T' hT'
      have e1 : run pal T' (st0 sh way n pic) q = (a, wd) := i3 T' fun x hx => by
        rw [hT' x (List.mem_append_left _ hx)]
        show at_ 0 (put told (r, c) _) x = _
        rw [at_put i1 hf (hq x hx), if_neg (hnq x hx)]
      have e2 : at_ 0 T' (r, c) = ne pal (at_ [] wd (r, c)) := by
        rw [hT' (r, c) (by simp)]
        show at_ 0 (put told (r, c) _) (r, c) = _
        rw [at_put i1 hf hf, if_pos rfl]
      rw [run_snoc, e1]
      have e3 : cT pal T' (r, c) = pal[(ne pal (at_ [] wd (r, c))).toNat] := by
        unfold cT
        rw [e2, List.getElem?_eq_getElem hkl]
        rfl
      rw [e3]
    · have h1 : (1000 : Int) ≤ 1000 ^ (q.length + 1) := by
        have h4 : (1000 : Nat) ^ 1 ≤ 1000 ^ (q.length + 1) := Nat.pow_le_pow_right (by decide) (by omega)
        exact_mod_cast h4
      have h2 := bok_tell hH0 hn hs i4 hf hcg h1 i5
      rw [List.length_append, List.length_singleton, Int.pow_succ]
      exact h2
  · rintro ⟨a, wd, told⟩ ⟨i1, i2, i3, _, _⟩
    dsimp only at i1 i2 i3 ⊢
    refine Ok.mk ⟨⟨i1, fun f hf => i2 f (mem_spF.mpr hf)⟩, ?_⟩
    show a.2.2 = _
    rw [i3 told fun _ _ => rfl]
end
/-! ### pick -/
theorem mix_ok (cell k : Int) (hk : 0 ≤ k ∧ k < 2 ^ 61) : Ok (m_law_mix cell k) fun _ => True := by
  unfold m_law_mix
  have p61 : (2 : Int) ^ 61 < 2 ^ 64 := by decide
  refine ok_mod (by omega) fun _ _ => ok_mul (mulOk_l ⟨by omega, by omega⟩) (ok_mul (mulOk_r (by decide)) (ok_mul (mulOk_r (by decide)) (ok_mod (by omega) fun h1 h2 => ok_mul (mulOk_l ⟨by omega, by omega⟩) (ok_mod (by omega) fun _ _ => Ok.mk True.intro))))
theorem pick_ok {n : Nat} {left : List Int} {many : Int} (h : Lk n left) (hn : n ≤ 1000000000) (h0 : 0 < many) (h1 : many < 1000000000) : Ok (m_law_pick left many) fun r => 0 ≤ r.1 ∧ r.1 < many ∧ Lk (n + 1) r.2 := by
  obtain ⟨a, b, c, rfl, hc0, hcn⟩ := h
  have p61 : (1000000000 : Int) + 100 < 2 ^ 61 := by decide
  unfold m_law_pick
  refine Ok.of (a := c) rfl (Ok.of (a := [a, b, c + 1]) rfl (Ok.of (a := a) rfl (ok_cond (fun _ => ?_) fun _ => ?_)))
  · refine Ok.of (a := a) rfl (ok_mod h0 fun m1 m2 => Ok.of (a := a) rfl (ok_div h0 (by omega) (Ok.of (a := [a / many, b, c + 1]) rfl (Ok.mk ⟨m1, m2, _, _, _, rfl, by omega, by omega⟩))))
  · refine Ok.of (a := b) rfl (Ok.of (a := c + 1) rfl (Ok.bind (mix_ok b (c + 1) ⟨by omega, by omega⟩) fun t _ => Ok.of (a := c + 1) rfl (Ok.bind (mix_ok t (c + 1 + 64) ⟨by omega, by omega⟩) fun t2 _ => ok_div (by omega) (by omega) (ok_mod h0 fun m1 m2 => Ok.mk ⟨m1, m2, _, _, _, rfl, by omega, by omega⟩))))
/-! ### kind -/
theorem kind_ok {n : Nat} {left : List Int} (h : Lk n left) (hn : n ≤ 1000000) : Ok (m_law_kind left) fun r => Kind r.1 ∧ Lk (n + 2) r.2 := by
  unfold m_law_kind
  refine Ok.bind (pick_ok h (by omega) (by omega) (by omega)) ?_
  rintro ⟨t, c⟩ ⟨h1, h2, h3⟩
  refine ok_get h1 h2 fun x _ hx => Ok.bind (pick_ok h3 (by omega) (by omega) (by omega)) ?_
  rintro ⟨t2, c2⟩ ⟨g1, g2, g3⟩
  refine ok_get g1 g2 fun y _ hy => Ok.mk ⟨⟨?_, ?_⟩, g3⟩
  · show 1 ≤ x ∧ x ≤ 5
    simp only [List.mem_cons, List.not_mem_nil, or_false] at hx
    omega
  · show 1 ≤ y ∧ y ≤ 1000
    simp only [List.mem_cons, List.not_mem_nil, or_false] at hy
    omega
/-! ### colour -/
theorem colour_ok {n : Nat} {left : List Int} {kind : Int × Int} (hk : Kind kind) (h : Lk n left) (hn : n ≤ 1000000) : Ok (m_law_colour left kind) fun r => Good kind.1.toNat r.1 ∧ Lk (n + 10) r.2 := by
  obtain ⟨⟨k1, k2⟩, k3, k4⟩ := hk
  have hl : (rng 0 kind.1).length = kind.1.toNat := by
    rw [rng_len]
    omega
  unfold m_law_colour
  refine ok_rng (by omega) (by omega) (ok_len (by omega) (Ok.bind (ok_mapSN (fun k s => Lk (n + 2 * k) s) (fun x => 0 ≤ x ∧ x < 1000) (k := 0) h ?_) ?_))
  · intro j x s _ hj hs
    refine Ok.bind (pick_ok hs (by omega) (by omega) (by omega)) ?_
    rintro ⟨t, c⟩ ⟨h1, h2, h3⟩
    refine Ok.bind (pick_ok h3 (by omega) (by omega) (by omega)) ?_
    rintro ⟨t2, c2⟩ ⟨g1, g2, g3⟩
    have hb := b2_ix (decide (t2 = 0))
    refine ok_get hb.1 hb.2 fun y _ hy => Ok.mk ⟨?_, g3.mono (by omega)⟩
    show 0 ≤ y ∧ y < 1000
    have h1' : 0 ≤ t := h1
    have h2' : t < kind.2 := h2
    simp only [List.mem_cons, List.not_mem_nil, or_false] at hy
    omega
  · rintro ⟨o, c⟩ ⟨h1, h2, h3⟩
    exact Ok.mk ⟨⟨h1.trans hl, h2⟩, h3.mono (by omega)⟩
/-! ### palette -/
theorem palette_ok {n : Nat} {left : List Int} {kind : Int × Int} (hk : Kind kind) (h : Lk n left) (hn : n ≤ 900000) : Ok (m_law_palette left kind) fun r => Pal kind.1.toNat r.1 ∧ Lk (n + 1000) r.2 := by
  unfold m_law_palette
  refine Ok.bind (pick_ok h (by omega) (by omega) (by omega)) ?_
  rintro ⟨t, c⟩ ⟨h1, h2, h3⟩
  refine Ok.bind (pick_ok h3 (by omega) (by omega) (by omega)) ?_
  rintro ⟨t2, c2⟩ ⟨g1, g2, g3⟩
  refine ok_get g1 g2 fun many _ hm => ?_
  have hmany : 1 ≤ many ∧ many ≤ 40 := by
    have h1' : 0 ≤ t := h1
    have h2' : t < 31 := h2
    simp only [List.mem_cons, List.not_mem_nil, or_false] at hm
    omega
  have hl : (rng 0 many).length = many.toNat := by
    rw [rng_len]
    omega
  refine ok_rng (by omega) (by omega) (Ok.bind (ok_forN (fun k (s : List Int × List Col) => Lk (n + 2 + 12 * k) s.1 ∧ s.2.length = k ∧ ∀ c ∈ s.2, Good kind.1.toNat c) ⟨g3, rfl, fun _ h => nomatch h⟩ ?_) ?_)
  · rintro j x ⟨lf, found⟩ _ hj ⟨i1, i2, i3⟩
    have i2' : found.length = j := i2
    refine Ok.bind (colour_ok hk i1 (by omega)) ?_
    rintro ⟨col, lf2⟩ ⟨p1, p2⟩
    refine Ok.bind (P := fun (r : Bool × List Int) => (r.1 = true → found ≠ []) ∧ Lk (n + 2 + 12 * j + 11) r.2) (ok_cond (fun hf => ?_) fun _ => Ok.mk ⟨fun z => (nomatch z), p2.mono (by omega)⟩) ?_
    · refine Ok.bind (pick_ok p2 (by omega) (by omega) (by omega)) ?_
      rintro ⟨t3, lf3⟩ ⟨_, _, q3⟩
      exact Ok.mk ⟨fun _ => by simpa using hf, q3.mono (by omega)⟩
    · rintro ⟨b, lf3⟩ ⟨q1, q2⟩
      refine Ok.bind (P := fun (r : Col × List Int) => Good kind.1.toNat r.1 ∧ Lk (n + 2 + 12 * (j + 1)) r.2) (ok_cond (fun hb => ?_) fun _ => Ok.mk ⟨p1, q2.mono (by omega)⟩) ?_
      · have h0 : found.length ≠ 0 := fun z => q1 hb (List.length_eq_zero_iff.mp z)
        refine Ok.bind (pick_ok q2 (by omega) (by omega) (by omega)) ?_
        rintro ⟨t3, lf4⟩ ⟨r1, r2, r3⟩
        exact ok_get r1 r2 fun y _ hy => Ok.mk ⟨i3 y hy, r3.mono (by omega)⟩
      · rintro ⟨col2, lf4⟩ ⟨r1, r2⟩
        refine ok_len (by show found.length ≤ _; omega) (Ok.mk ⟨r2, ?_, fun z hz => ?_⟩)
        · show (found ++ [col2]).length = j + 1
          rw [List.length_append, i2']
          rfl
        · rcases List.mem_append.mp hz with hz | hz
          · exact i3 z hz
          · rw [List.mem_singleton.mp hz]
            exact r1
  · rintro ⟨lf, found⟩ ⟨i1, i2, i3⟩
    have i2' : found.length = (rng 0 many).length := i2
    refine Ok.mk ⟨⟨i3, fun e => ?_, by show found.length ≤ _; omega⟩, i1.mono (by omega)⟩
    have e' : found = [] := e
    rw [e'] at i2'
    have : (0 : Nat) = (rng 0 many).length := i2'
    omega
/-! ### pictureW -/
theorem pictureW_ok {n : Nat} {left : List Int} {kind : Int × Int} (hk : Kind kind) (h : Lk n left) (hn : n ≤ 500000) : Ok (m_law_picture left kind) fun r => ∃ H W, (0 < H ∧ 0 < W ∧ H ≤ 16 ∧ W ≤ 16) ∧ PicOk H W kind.1.toNat r.1 ∧ Lk (n + 10000) r.2 := by
  unfold m_law_picture
  have h2 : (rng 0 2).length = 2 := by rw [rng_len]; rfl
  refine ok_rng (by omega) (by omega) (ok_len (by omega) (Ok.bind (ok_mapSN (fun k s => Lk (n + 3 * k) s) (fun x => 1 ≤ x ∧ x ≤ 16) (k := 0) h ?_) ?_))
  · intro j x s _ hj hs
    refine Ok.bind (pick_ok hs (by omega) (by omega) (by omega)) ?_
    rintro ⟨t, c⟩ ⟨h1, h2, h3⟩
    refine Ok.bind (pick_ok h3 (by omega) (by omega) (by omega)) ?_
    rintro ⟨t2, c2⟩ ⟨g1, g2, g3⟩
    refine Ok.bind (pick_ok g3 (by omega) (by omega) (by omega)) ?_
    rintro ⟨t3, c3⟩ ⟨f1, f2, f3⟩
    have hb := b2_ix (decide (t3 = 0))
    refine ok_get hb.1 hb.2 fun y _ hy => Ok.mk ⟨?_, f3.mono (by omega)⟩
    show 1 ≤ y ∧ y ≤ 16
    have h1' : 0 ≤ t := h1
    have h2' : t < 6 := h2
    have g1' : 0 ≤ t2 := g1
    have g2' : t2 < 16 := g2
    simp only [List.mem_cons, List.not_mem_nil, or_false] at hy
    omega
  · rintro ⟨o, lf⟩ ⟨o1, o2, o3⟩
    obtain ⟨high, wide, rfl⟩ : ∃ a b, o = [a, b] := by
      have o1' : o.length = 2 := by rw [← h2]; exact o1
      match o, o1' with
      | [a, b], _ => exact ⟨a, b, rfl⟩
    have hh := o2 high (by simp)
    have hw := o2 wide (by simp)
    have lh : (rng 0 high).length = high.toNat := by rw [rng_len]; omega
    have lw : (rng 0 wide).length = wide.toNat := by rw [rng_len]; omega
    refine Ok.of (a := (high, wide)) rfl (Ok.bind (pick_ok (o3.mono (m := n + 6) (by omega)) (by omega) (by omega) (by omega)) ?_)
    rintro ⟨t, lf2⟩ ⟨t1, t2, t3⟩
    have t1' : 0 ≤ t := t1
    have t2' : t < 8 := t2
    have lt : (rng 0 (1 + t)).length = (1 + t).toNat := by rw [rng_len]; omega
    refine ok_rng (by omega) (by omega) (ok_len (by omega) (Ok.bind (ok_mapSN (fun k s => Lk (n + 7 + 10 * k) s) (fun x => Good kind.1.toNat x) (k := 0) t3 ?_) ?_))
    · intro j x s _ hj hs
      refine Ok.bind (colour_ok hk hs (by omega)) ?_
      rintro ⟨c, lf3⟩ ⟨c1, c2⟩
      exact Ok.mk ⟨c1, c2.mono (by omega)⟩
    · rintro ⟨some_, lf3⟩ ⟨s1, s2, s3⟩
      have s1' : some_.length = (rng 0 (1 + t)).length := s1
      refine ok_rng (by omega) (by omega) (Ok.bind (ok_forN (fun k (s : List Int × Pic) => Lk (n + 7 + 80 + 200 * k) s.1 ∧ s.2.length = k ∧ ∀ r ∈ s.2, r.length = wide.toNat ∧ ∀ c ∈ r, Good kind.1.toNat c) ⟨s3.mono (by omega), rfl, fun _ h => nomatch h⟩ ?_) ?_)
      · rintro j x ⟨lf4, found⟩ _ hj ⟨i1, i2, i3⟩
        have i2' : found.length = j := i2
        refine ok_rng (by omega) (by omega) (Ok.bind (ok_forN (fun k (s : List Int × List Col) => Lk (n + 7 + 80 + 200 * j + 12 * k) s.1 ∧ s.2.length = k ∧ ∀ c ∈ s.2, Good kind.1.toNat c) ⟨i1, rfl, fun _ h => nomatch h⟩ ?_) ?_)
        · rintro k x ⟨lf5, spots⟩ _ hk2 ⟨p1, p2, p3⟩
          have p2' : spots.length = k := p2
          refine Ok.bind (pick_ok p1 (by omega) (by omega) (by omega)) ?_
          rintro ⟨u, lf6⟩ ⟨u1, u2, u3⟩
          refine ok_get u1 u2 fun col _ hcol => Ok.bind (pick_ok u3 (by omega) (by omega) (by omega)) ?_
          rintro ⟨v, lf7⟩ ⟨v1, v2, v3⟩
          refine Ok.bind (P := fun (r : Col × List Int) => Good kind.1.toNat r.1 ∧ Lk (n + 7 + 80 + 200 * j + 12 * (k + 1)) r.2) (ok_cond (fun _ => ?_) fun _ => Ok.mk ⟨s2 col hcol, v3.mono (by omega)⟩) ?_
          · refine Ok.bind (colour_ok hk v3 (by omega)) ?_
            rintro ⟨c, lf8⟩ ⟨c1, c2⟩
            exact Ok.mk ⟨c1, c2.mono (by omega)⟩
          · rintro ⟨c, lf8⟩ ⟨c1, c2⟩
            refine ok_len (by show spots.length ≤ _; omega) (Ok.mk ⟨c2, ?_, fun z hz => ?_⟩)
            · show (spots ++ [c]).length = k + 1
              rw [List.length_append, p2']
              rfl
            · rcases List.mem_append.mp hz with hz | hz
              · exact p3 z hz
              · rw [List.mem_singleton.mp hz]
                exact c1
        · rintro ⟨lf5, spots⟩ ⟨p1, p2, p3⟩
          have p2' : spots.length = (rng 0 wide).length := p2
          refine ok_len (by show found.length ≤ _; omega) (Ok.mk ⟨p1.mono (by omega), ?_, fun z hz => ?_⟩)
          · show (found ++ [spots]).length = j + 1
            rw [List.length_append, i2']
            rfl
          · rcases List.mem_append.mp hz with hz | hz
            · exact i3 z hz
            · rw [List.mem_singleton.mp hz]
              exact ⟨p2'.trans lw, p3⟩
      · rintro ⟨lf4, found⟩ ⟨i1, i2, i3⟩
        have i2' : found.length = (rng 0 high).length := i2
        exact Ok.mk ⟨found.length, wide.toNat, ⟨by omega, by omega, by omega, by omega⟩, ⟨⟨rfl, fun r hr => (i3 r hr).1⟩, fun r hr => (i3 r hr).2⟩, i1.mono (by omega)⟩
/-! ### left -/
theorem left_ok {ns : List Int} {k : Int} (hk : 0 ≤ k ∧ k ≤ 3) : Ok (m_law_left ns k) fun l => ∃ a b, l = [a, b, 0] := by
  unfold m_law_left
  refine Ok.bind (P := fun _ => True) (ok_cond (fun h => ?_) fun _ => Ok.mk True.intro) fun t _ => ?_
  · have h2 := of_decide_eq_true h
    exact ok_get hk.1 h2 fun x _ _ => Ok.mk True.intro
  · have hb := b2_ix (decide ((1000000000000000000 : Int) ≤ absI t))
    refine ok_mul (mulOk_r ⟨by omega, by omega⟩) (ok_mul (mulOk_l (by decide)) (Ok.mk ⟨_, _, rfl⟩))
theorem cutI_tail {α : Type} (y : α) (ys : List α) : cutI (y :: ys) (some 1) none = ys := by
  unfold cutI
  have e : HT.sIx (y :: ys).length 0 (some ((1 : Nat) : Int)) = min 1 (ys.length + 1) := HT.sIx_nat _ _ 1
  rw [show (some (1 : Int)) = some ((1 : Nat) : Int) from rfl, e, show HT.sIx (y :: ys).length (y :: ys).length none = ys.length + 1 from rfl, Nat.min_eq_left (by omega)]
  show List.take (ys.length + 1 - 1) ys = ys
  rw [Nat.add_sub_cancel, List.take_length]
def PL (tk : List (Spot × Int)) (vs : List Int) : Shares := (tk.zip vs).map fun x => (x.1.1.1, x.1.1.2, x.2)
section
variable {H W n : Nat} {sh : Shares} {way : Str} {pic : Pic} {pal : List Col} {T : List (List Int)} {f : Spot}
theorem tot_pos (hs : Sh sh) {s : Int × Int × Int} (h : s ∈ sh) : 0 < totF sh := by
  have h1 := (hs.ok s h).2.2.1
  have h2 := sum_ge (a := fun s : Int × Int × Int => s.2.2) (fun x hx => by have := (hs.ok x hx).2.2.1; omega) s h
  show 0 < (sh.map fun s => s.2.2).sum
  omega
theorem pieces_eq (hs : Sh sh) (f : Spot) (rest : Int) : m_law_pieces rest sh (f.1, f.2, sideF way f.1) H W = some (PL (tkF sh way H W f) (VP (tkF sh way H W f) (totF sh) rest)) := by
  refine Ok.eq ?_
  unfold m_law_pieces
  have hl := hs.len
  have htl := totF_le hs
  refine ok_len (by omega) (Ok.of (a := totF sh) rfl (Ok.bind (ok_for (fun q (c : Shares) => c.length ≤ q.length ∧ c = (tkF q way H W f).map fun t => (t.1.1, t.1.2, rest * t.2 / totF sh)) ⟨Nat.le_refl _, rfl⟩ ?_) ?_))
  · rintro q ⟨a, d, p⟩ l c e ⟨i1, i2⟩
    have hm : (a, d, p) ∈ sh := by rw [e]; simp
    have ho := hs.ok _ hm
    have ha : -2 ≤ a ∧ a ≤ 2 := ho.2.1
    have hp : 1 ≤ p ∧ p ≤ 64 := ho.2.2
    have ht := tot_pos hs hm
    have hq : q.length < 12 := by
      have h1 := congrArg List.length e
      rw [List.length_append, List.length_cons] at h1
      omega
    have hside : sideF way f.1 * a = a * sideF way f.1 := Int.mul_comm _ _
    dsimp only
    refine ok_mul (mulOk_r ⟨by omega, by omega⟩) (Ok.of (a := (f.1 + d, f.2 + sideF way f.1 * a)) rfl ?_)
    have hb : (decide ((f.1 + d, f.2 + sideF way f.1 * a).1 < (H : Int)) && decide (0 ≤ (f.1 + d, f.2 + sideF way f.1 * a).2 ∧ (f.1 + d, f.2 + sideF way f.1 * a).2 < (W : Int))) = tkOk H W way f (a, d, p) := by
      rw [hside]
      show (decide (f.1 + d < (H : Int)) && decide (0 ≤ f.2 + a * sideF way f.1 ∧ f.2 + a * sideF way f.1 < (W : Int))) = (decide (f.1 + d < (H : Int)) && (decide (0 ≤ f.2 + a * sideF way f.1) && decide (f.2 + a * sideF way f.1 < (W : Int))))
      rw [Bool.decide_and]
    rw [hb]
    refine Ok.bind (P := fun c' : Shares => c'.length ≤ (q ++ [(a, d, p)]).length ∧ c' = (tkF (q ++ [(a, d, p)]) way H W f).map fun t => (t.1.1, t.1.2, rest * t.2 / totF sh)) (ok_cond (fun h1 => ok_mul (mulOk_r ⟨by omega, by omega⟩) (ok_div ht (by omega) (ok_len (by show 2 + 1 ≤ _; omega) (ok_len (by omega) (Ok.mk ⟨?_, ?_⟩))))) fun h1 => Ok.mk ⟨?_, ?_⟩) fun c' h => Ok.mk h
    · rw [List.length_append, List.length_append]
      exact Nat.add_le_add_right i1 1
    · rw [tk_snoc, if_pos h1, List.map_append, ← i2, hside]
      rfl
    · rw [List.length_append]
      omega
    · rw [tk_snoc, if_neg (by rw [h1]; decide), ← i2]
  · rintro c ⟨i1, i2⟩
    have hlen : c.length ≤ 12 := by omega
    refine ok_cond (fun h1 => ?_) fun h1 => ?_
    · have h2 := of_decide_eq_true h1
      rw [i2] at h2
      have h3 := List.map_eq_nil_iff.mp h2
      refine Ok.mk ?_
      rw [h3, i2, h3]
      rfl
    · cases e : tkF sh way H W f with
      | nil =>
        rw [e] at i2
        have h2 := of_decide_eq_false h1
        exact absurd i2 h2
      | cons t tk =>
        rw [e] at i2
        have hc : c = (t.1.1, t.1.2, rest * t.2 / totF sh) :: tk.map (fun t => (t.1.1, t.1.2, rest * t.2 / totF sh)) := i2
        have hS : (c.map fun x => x.2.2).sum = ((t :: tk).map fun t => rest * t.2 / totF sh).sum := by
          rw [i2, List.map_map]
          rfl
        refine ok_len (by omega) (Ok.of (a := rest - ((t :: tk).map fun t => rest * t.2 / totF sh).sum) (by rw [← hS]) ?_)
        have hg : getI c 0 = some (t.1.1, t.1.2, rest * t.2 / totF sh) := getI_nat (by omega) (by rw [hc]; rfl)
        refine Ok.of hg (Ok.of hg (ok_len (by show 1 + 1 + 1 ≤ _; omega) (ok_len ?_ (Ok.mk ?_))))
        · have := (cutI_sub c (some (1 : Int)) none).length_le
          show 1 + _ ≤ _
          omega
        · rw [hc, cutI_tail]
          show _ :: List.map _ tk = List.map _ ((t, _) :: List.zip tk (tk.map fun t => rest * t.2 / totF sh))
          rw [FC.zip_map_self]
          show _ :: _ = _ :: List.map _ (List.map _ tk)
          rw [List.map_map]
          rfl
theorem turns_eq (hH : H ≤ 16) (hW : W ≤ 16) : m_law_turns H W way = some ((spF H W way).map fun f => (f.1, f.2, sideF way f.1)) := by
  refine Ok.eq ?_
  unfold m_law_turns
  have lH : (rng 0 (H : Int)).length = H := by rw [rng_len]; omega
  have lW : (rng 0 (W : Int)).length = W := by rw [rng_len]; omega
  refine ok_rng (by omega) (by omega) (Ok.bind (ok_for (fun q (c : Shares) => c.length = q.length * W ∧ c = q.flatMap fun r => (colF way W r).map fun y => (r, y, sideF way r)) ⟨(Nat.zero_mul _).symm, rfl⟩ ?_) ?_)
  · rintro q r l c e ⟨i1, i2⟩
    have hq : q.length < H := by
      have h1 := congrArg List.length e
      rw [lH, List.length_append, List.length_cons] at h1
      omega
    have hq2 : q.length * W ≤ 16 * 16 := Nat.mul_le_mul (by omega) hW
    have hb := b2_ix (decide (way = Str.ofString "turned"))
    refine ok_mod (by omega) fun m1 m2 => ok_mul (mulOk_r ⟨by omega, by omega⟩) (Ok.of (a := sideF way r) ?_ (ok_rng (by omega) (by omega) (Ok.bind (ok_for (fun p (s : Shares) => s.length = c.length + p.length ∧ s = c ++ p.map fun y => (r, (if sideF way r = 1 then y else (W : Int) - 1 - y), sideF way r)) ⟨rfl, (List.append_nil _).symm⟩ ?_) ?_)))
    · unfold sideF
      have e2 : r % 2 = 0 ∨ r % 2 = 1 := by omega
      by_cases e1 : way = Str.ofString "turned"
      · rw [show decide (way = Str.ofString "turned") = true from decide_eq_true e1]
        rcases e2 with e2 | e2
        · rw [e2, if_neg (fun z => by omega)]
          rfl
        · rw [e2, if_pos ⟨e1, rfl⟩]
          rfl
      · rw [show decide (way = Str.ofString "turned") = false from decide_eq_false e1, if_neg (fun z => e1 z.1)]
        show getI _ (r % 2 * 0) = _
        rw [Int.mul_zero]
        rfl
    · rintro p s l2 c2 e2 ⟨j1, j2⟩
      have hp : p.length < W := by
        have h1 := congrArg List.length e2
        rw [lW, List.length_append, List.length_cons] at h1
        omega
      refine Ok.of (a := if sideF way r = 1 then s else (W : Int) - 1 - s) ?_ (ok_len (by omega) (Ok.mk ⟨?_, ?_⟩))
      · rcases side_or way r with z | z
        · rw [if_pos z, z]
          rfl
        · rw [if_neg (by rw [z]; decide), z]
          rfl
      · rw [List.length_append, List.length_append, j1]
        rfl
      · rw [j2, List.map_append, List.append_assoc]
        rfl
    · rintro s ⟨j1, j2⟩
      refine Ok.mk ⟨?_, ?_⟩
      · rw [j1, lW, i1, List.length_append, List.length_singleton, Nat.add_mul, Nat.one_mul]
      · rw [j2, i2, List.flatMap_append]
        congr 1
        show _ = List.map _ (colF way W r) ++ []
        rw [List.append_nil]
        unfold colF
        rcases side_or way r with z | z
        · rw [if_pos z]
          refine List.map_congr_left fun y _ => ?_
          rw [if_pos z]
        · have z2 : ¬ sideF way r = 1 := by
            rw [z]
            decide
          rw [if_neg z2, ← rng_rev, List.map_map]
          refine List.map_congr_left fun y _ => ?_
          rw [if_neg z2]
          rfl
  · rintro c ⟨_, i2⟩
    refine Ok.mk ?_
    rw [i2]
    unfold spF
    rw [List.map_flatMap]
    congr 1
    funext r
    rw [List.map_map]
    rfl
theorem getp {c : Col} {p : Nat} (hc : c.length = n) (hp : p < n) : getI c (p : Int) = some (pl c p) := by
  refine getI_nat (by omega) ?_
  unfold pl
  rw [Int.toNat_natCast, List.getElem?_eq_getElem (by omega)]
  rfl
theorem run_app {st : HS} (q l : List Spot) : run pal T st (q ++ l) = run pal T (run pal T st q) l := List.foldl_append
theorem place_eq (hH0 : 0 < H) (hW0 : 0 < W) (hH : H ≤ 16) (hW : W ≤ 16) (hn : n ≤ 16) (hs : Sh sh) (h : PicOk H W n pic) (hp : ∀ c ∈ pal, Good n c) (hT : TOk H W pal T) {p : Nat} (hpn : p < n) :
    m_law_place_right pic pal sh way T (run pal T (st0 sh way n pic) (spF H W way)).2 p = some (some (pl (run pal T (st0 sh way n pic) (spF H W way)).1.2.2 p)) := by
  refine Ok.eq ?_
  unfold m_law_place_right
  have hr := h.rect
  have hall := all_sp (way := way) (q := spF H W way) hp hT fun x hx => hx
  have hend := run_ok (pal := pal) (T := T) (q := spF H W way) hH0 hn hs (st0_ok (sh := sh) (way := way) h) hall
  refine ok_get (by omega) (by rw [hr.1]; omega) fun t1 _ ht1 => ?_
  have hw := hr.2 t1 ht1
  dsimp only
  rw [hw, hr.1]
  refine ok_len (by omega) (Ok.of (mapO_of (g := fun _ => List.replicate W 0) fun r _ => Ok.eq (Ok.of (rep_eq hW) (Ok.mk rfl))) (Ok.of (turns_eq hH hW) (Ok.bind (ok_forC (fun q (s : Int × List (List Int)) => s.1 = pl (run pal T (st0 sh way n pic) ((spF H W way).take q.length)).1.2.2 p ∧ Rect H W s.2 ∧ ∀ g, Inn H W g → at_ 0 s.2 g = pl (at_ [] (run pal T (st0 sh way n pic) ((spF H W way).take q.length)).2 g) p - pl (at_ [] pic g) p) ⟨?_, ⟨?_, ?_⟩, ?_⟩ ?_) ?_)))
  · show (0 : Int) = pl (List.replicate n 0) p
    unfold pl
    rw [List.getElem?_replicate, if_pos hpn]
    rfl
  · show (List.map _ pic).length = H
    rw [List.length_map]
    exact hr.1
  · intro r hr'
    obtain ⟨_, _, rfl⟩ := List.mem_map.mp hr'
    exact List.length_replicate
  · intro g hg
    show at_ 0 (List.map _ pic) g = pl (at_ [] pic g) p - pl (at_ [] pic g) p
    rw [Int.sub_self]
    obtain ⟨r, g1, g2, g3⟩ := hr.row hg
    unfold at_
    rw [List.getElem?_map, g1]
    show (List.replicate W (0 : Int))[g.2.toNat]?.getD 0 = 0
    rw [List.getElem?_replicate]
    split <;> rfl
  · rintro q ⟨r, c, sd⟩ l ⟨lost, hd⟩ e ⟨i1, i2, i3⟩
    dsimp only at i1 i2 i3 ⊢
    obtain ⟨q', l', e1, e2, e3⟩ := List.map_eq_append_iff.mp e
    obtain ⟨f, l2, e4, e5, e6⟩ := List.map_eq_cons_iff.mp e3
    subst e4
    have hq : q'.length = q.length := by rw [← e2, List.length_map]
    have htk : (spF H W way).take q.length = q' := by rw [e1, ← hq, List.take_left]
    have hf : Inn H W f := mem_spF.mp (by rw [e1]; simp)
    rw [htk] at i1 i3
    have hfe : f = (r, c) ∧ sideF way f.1 = sd := by
      rw [Prod.mk.injEq, Prod.mk.injEq] at e5
      exact ⟨Prod.ext e5.1 e5.2.1, e5.2.2⟩
    obtain ⟨hfe, hsd⟩ := hfe
    subst hsd
    have hr1 : r = f.1 := by rw [hfe]
    have hc1 : c = f.2 := by rw [hfe]
    subst hr1 hc1
    have hall' : ∀ x ∈ q', Inn H W x ∧ (cT pal T x).length = n := fun x hx => hall x (by rw [e1]; exact List.mem_append_left _ hx)
    have hst := run_ok (pal := pal) (T := T) (q := q') hH0 hn hs (st0_ok (sh := sh) (way := way) h) hall'
    have hend2 : run pal T (st0 sh way n pic) (spF H W way) = run pal T (run pal T (st0 sh way n pic) q') (f :: l2) := by rw [e1, run_app]
    have hlat := later_sp hs e1
    have hall2 : ∀ x ∈ f :: l2, Inn H W x ∧ (cT pal T x).length = n := fun x hx => hall x (by rw [e1]; exact List.mem_append_right _ hx)
    have hkeep : pl (at_ [] (run pal T (st0 sh way n pic) (spF H W way)).2 f) p = pl (at_ [] (run pal T (st0 sh way n pic) q').2 f) p := by
      rw [hend2]
      refine run_keep hH0 hn hs hf hpn hst hall2 fun x hx => ?_
      rcases List.mem_cons.mp hx with z | z
      · subst z
        intro t ht z
        exact hlat.1 (z ▸ hlat.2.1 t ht)
      · exact later_no hlat.2.2 hlat.1 x z
    generalize hfin : run pal T (st0 sh way n pic) (spF H W way) = fin at hkeep hend ⊢
    generalize hstq : run pal T (st0 sh way n pic) q' = stq at i1 i3 hst hkeep ⊢
    obtain ⟨w1, wa, wb, _⟩ := get_rowG (d := ([] : Col)) hend.rect hf
    obtain ⟨p1, pa, pb, _⟩ := get_rowG (d := ([] : Col)) hr hf
    obtain ⟨n1, na, nb, _⟩ := get_rowG (d := (0 : Int)) hT.1 hf
    obtain ⟨c1, c2⟩ := cT_good hp hT hf
    refine Ok.of wa (Ok.of wb (Ok.of (getp (hend.col f hf) hpn) (Ok.of pa (Ok.of pb (Ok.of (getp (h.at hf).1 hpn) (Ok.of (nget_at (d := 0) i2 hf) (ok_cond (fun hne => ?_) fun _ => ?_)))))))
    · exfalso
      rw [i3 f hf, hkeep] at hne
      simp at hne
    · refine Ok.of na (Ok.of nb (Ok.of (getI_nat (hT.2 f hf).1 c1) (Ok.of (getp c2.1 hpn) (Ok.of (a := rp stq f (cT pal T f) p) (by rw [hkeep]; rfl) (Ok.of (pieces_eq hs f _) ?_)))))
      obtain ⟨_, t1', t2', t3'⟩ := tell_eq hH0 hn hs hst hf c2.1
      have hnext : run pal T (st0 sh way n pic) ((spF H W way).take (q ++ [(f.1, f.2, sideF way f.1)]).length) = tl stq f (cT pal T f) := by
        have e7 : (spF H W way).take (q ++ [(f.1, f.2, sideF way f.1)]).length = q' ++ [f] := by
          rw [e1, List.length_append, List.length_singleton, ← hq, List.take_length_add_append]
          rfl
        rw [e7, run_snoc, hstq]
      refine Ok.bind (ok_for (fun z (m : List (List Int)) => Rect H W m ∧ ∀ g, Inn H W g → at_ 0 m g = at_ 0 hd g + (z.map fun x : Int × Int × Int => if (x.1, x.2.1) = g then x.2.2 else 0).sum) ⟨i2, fun g _ => (Int.add_zero _).symm⟩ ?_) ?_
      · rintro z ⟨fr, fc, v⟩ z2 m e8 ⟨m1, m2⟩
        have hmem : (fr, fc, v) ∈ PL (tkF sh way H W f) (VP (tkF sh way H W f) (totF sh) (rp stq f (cT pal T f) p)) := by rw [e8]; simp
        obtain ⟨x, hx, hxe⟩ := List.mem_map.mp hmem
        have htm := tk_mem hs hf (List.of_mem_zip hx).1
        rw [Prod.mk.injEq, Prod.mk.injEq] at hxe
        have hin : Inn H W (fr, fc) := by
          have e9 : x.1.1 = (fr, fc) := Prod.ext hxe.1 hxe.2.1
          rw [← e9]
          exact htm.1
        refine Ok.of (nget_at (d := 0) m1 hin) (Ok.of (nset_put m1 hin) (Ok.mk ⟨rect_put m1 hin, fun g hg => ?_⟩))
        rw [at_put m1 hin hg, List.map_append, List.sum_append]
        show _ = _ + (_ + ((if (fr, fc) = g then v else 0) + 0))
        by_cases e9 : g = (fr, fc)
        · rw [if_pos e9, if_pos e9.symm, e9, m2 _ hin]
          dsimp only
          omega
        · rw [if_neg e9, if_neg fun z => e9 z.symm, m2 g hg]
          omega
      · rintro m ⟨m1, m2⟩
        have hm3 : ∀ g, Inn H W g → at_ 0 m g = pl (at_ [] (tl stq f (cT pal T f)).2 g) p - pl (at_ [] pic g) p := fun g hg => by
          rw [m2 g hg, i3 g hg, t3' g p hg hpn]
          have e8 : (List.map (fun x : Int × Int × Int => if (x.1, x.2.1) = g then x.2.2 else 0) (PL (tkF sh way H W f) (VP (tkF sh way H W f) (totF sh) (rp stq f (cT pal T f) p)))).sum = con g (tkF sh way H W f) (VP (tkF sh way H W f) (totF sh) (rp stq f (cT pal T f) p)) := by
            unfold PL con
            rw [List.map_map]
            rfl
          rw [e8]
          omega
        have hl2 := t2' p hpn
        refine Ok.bind (P := fun k : Ctl Int (Option Int) => k = .nx (pl (tl stq f (cT pal T f)).1.2.2 p)) (ok_cond (fun h1 => ?_) fun h1 => ?_) ?_
        · have h2 : tkF sh way H W f = [] := by
            have h3 := congrArg List.length (of_decide_eq_true h1)
            unfold PL at h3
            rw [List.length_map, List.length_zip, VP_len, Nat.min_self] at h3
            exact List.length_eq_zero_iff.mp h3
          rw [if_pos h2] at hl2
          refine Ok.of rfl (Ok.mk ?_)
          rw [hl2, i1]
        · have h2 : tkF sh way H W f ≠ [] := fun z => by
            have h3 := of_decide_eq_false h1
            rw [z] at h3
            exact h3 rfl
          rw [if_neg h2] at hl2
          have h4 : (List.map (fun x : Int × Int × Int => x.2.2) (PL (tkF sh way H W f) (VP (tkF sh way H W f) (totF sh) (rp stq f (cT pal T f) p)))).sum = rp stq f (cT pal T f) p := by
            unfold PL
            rw [List.map_map]
            have e8 : List.map ((fun x : Int × Int × Int => x.2.2) ∘ fun x : (Spot × Int) × Int => (x.1.1.1, x.1.1.2, x.2)) ((tkF sh way H W f).zip (VP (tkF sh way H W f) (totF sh) (rp stq f (cT pal T f) p))) = ((tkF sh way H W f).zip (VP (tkF sh way H W f) (totF sh) (rp stq f (cT pal T f) p))).map Prod.snd := rfl
            rw [e8, List.map_snd_zip (by rw [VP_len]; exact Nat.le_refl _), VP_sum h2]
          refine ok_len ?_ (ok_cond (fun hne => ?_) fun _ => Ok.mk ?_)
          · unfold PL
            rw [List.length_map, List.length_zip]
            have := tk_len (way := way) (H := H) (W := W) (f := f) hs
            omega
          · exfalso
            rw [h4] at hne
            simp at hne
          · rw [hl2, i1, Int.add_zero]
        · rintro _ rfl
          refine Ok.mk ⟨_, rfl, ?_, m1, ?_⟩
          · rw [hnext]
          · rw [hnext]
            exact hm3
  · rintro _ ⟨⟨lost, hd⟩, rfl, i1, _, _⟩
    dsimp only [ctlK] at i1 ⊢
    refine Ok.mk ?_
    rw [i1, List.length_map, List.take_length]
theorem walked_eq (hH0 : 0 < H) (hW0 : 0 < W) (hH : H ≤ 16) (hW : W ≤ 16) (hn : n ≤ 16) (hs : Sh sh) (h : PicOk H W n pic) (hp : Pal n pal) (hT : TOk H W pal T) :
    m_law_walked pic pal sh way T = some ((run pal T (st0 sh way n pic) (spF H W way)).1.2.2.map some) := by
  refine Ok.eq ?_
  unfold m_law_walked
  have hall := all_sp (way := way) (q := spF H W way) hp.ok hT fun x hx => hx
  have hend := run_ok (pal := pal) (T := T) (q := spF H W way) hH0 hn hs (st0_ok (sh := sh) (way := way) h) hall
  have h0 : 0 < pal.length := List.length_pos_iff.mpr hp.ne
  refine Ok.of (wanted_eq hH0 hW0 hH hW hn hs h hp.ok hT) (ok_get (by omega) (by omega) fun c0 _ hc0 => ?_)
  have hcl := (hp.ok c0 hc0).1
  rw [hcl]
  have lN : (rng 0 (n : Int)).length = n := by rw [rng_len]; omega
  refine ok_rng (by omega) (by omega) (Ok.bind (ok_for (fun q (c : List (Option Int)) => c.length = q.length ∧ c = q.map fun p => some (pl (run pal T (st0 sh way n pic) (spF H W way)).1.2.2 p.toNat)) ⟨rfl, rfl⟩ ?_) ?_)
  · rintro q p l c e ⟨i1, i2⟩
    have hm := mem_rng.mp (show p ∈ rng 0 (n : Int) by rw [e]; simp)
    have hql : q.length < n := by
      have h1 := congrArg List.length e
      rw [lN, List.length_append, List.length_cons] at h1
      omega
    have hpe := place_eq (way := way) hH0 hW0 hH hW hn hs h hp.ok hT (p := p.toNat) (by omega)
    rw [Int.toNat_of_nonneg hm.1] at hpe
    refine Ok.of hpe (ok_len (by omega) (Ok.mk ⟨by rw [List.length_append, List.length_append, i1]; rfl, ?_⟩))
    rw [i2, List.map_append]
    rfl
  · rintro c ⟨_, i2⟩
    refine Ok.mk ?_
    have h1 := list_rng (0 : Int) (run pal T (st0 sh way n pic) (spF H W way)).1.2.2
    rw [hend.lost] at h1
    rw [i2]
    conv => rhs; rw [h1, List.map_map]
    rfl
theorem sp_sum {β : Type} {d : β} {m : List (List β)} (h : Rect H W m) (F : β → Int) : ((spF H W way).map fun f => F (at_ d m f)).sum = (m.map fun row => (row.map F).sum).sum := by
  have e1 : ∀ r, ((colF way W r).map fun c => F (at_ d m (r, c))).sum = ((rng 0 (W : Int)).map fun c => F (at_ d m (r, c))).sum := fun r => by
    unfold colF
    split
    · rfl
    · rw [List.map_reverse, sum_rev]
  unfold spF
  rw [sum_flat]
  conv => rhs; rw [list_rng ([] : List β) m, List.map_map, h.1]
  refine sum_congr fun r hr => ?_
  have hr2 := mem_rng.mp hr
  rw [List.map_map]
  refine (e1 r).trans ?_
  have hl : r.toNat < m.length := by rw [h.1]; omega
  have hrow : (m[r.toNat]?.getD []).length = W := by
    rw [List.getElem?_eq_getElem hl]
    exact h.2 _ (List.getElem_mem hl)
  show _ = ((m[r.toNat]?.getD []).map F).sum
  conv => rhs; rw [list_rng d (m[r.toNat]?.getD []), List.map_map, hrow]
  rfl
theorem sums_eq (hH0 : 0 < H) (hH : H ≤ 16) (hW : W ≤ 16) (hn : n ≤ 16) (hs : Sh sh) (h : PicOk H W n pic) (hp : Pal n pal) (hT : TOk H W pal T) :
    m_law_sums_right pic pal T (run pal T (st0 sh way n pic) (spF H W way)).1.2.2 = some true := by
  refine Ok.eq ?_
  unfold m_law_sums_right
  have hall := all_sp (way := way) (q := spF H W way) hp.ok hT fun x hx => hx
  have hend := run_ok (pal := pal) (T := T) (q := spF H W way) hH0 hn hs (st0_ok (sh := sh) (way := way) h) hall
  rw [hend.lost]
  refine ok_rng (by omega) (by omega) (Ok.of (ok_forC0 fun p hp' => ?_) (Ok.mk rfl))
  have hm := mem_rng.mp hp'
  have hpn : p.toNat < n := by omega
  have hpc : ((p.toNat : Nat) : Int) = p := Int.toNat_of_nonneg hm.1
  have hr := h.rect
  refine Ok.eq (ok_len (by rw [hr.1]; omega) (Ok.of (mapO_of (g := fun row => (row.map fun c => pl c p.toNat).sum) fun row hrow => ?_) (Ok.of rfl (ok_len (by rw [hT.1.1]; omega) (Ok.of (mapO_of (g := fun row => (row.map fun k => pl (pal[k.toNat]?.getD []) p.toNat).sum) fun row hrow => ?_) (Ok.of rfl ?_))))))
  · refine Ok.eq (ok_len (by rw [hr.2 row hrow]; omega) (Ok.of (mapO_of (g := fun c => pl c p.toNat) fun c hc => ?_) (Ok.mk rfl)))
    have h1 := getp (h.good row hrow c hc).1 hpn
    rw [hpc] at h1
    exact Ok.eq (Ok.of h1 (Ok.mk rfl))
  · refine Ok.eq (ok_len (by rw [hT.1.2 row hrow]; omega) (Ok.of (mapO_of (g := fun k => pl (pal[k.toNat]?.getD []) p.toNat) fun k hk => ?_) (Ok.mk rfl)))
    have hk2 : 0 ≤ k ∧ k < pal.length := by
      obtain ⟨i, hi⟩ := List.mem_iff_getElem?.mp hrow
      obtain ⟨j, hj⟩ := List.mem_iff_getElem?.mp hk
      have hi2 := (List.getElem?_eq_some_iff.mp hi).1
      have hj2 := (List.getElem?_eq_some_iff.mp hj).1
      rw [hT.1.1] at hi2
      rw [hT.1.2 row hrow] at hj2
      have h1 := hT.2 ((i : Int), (j : Int)) ⟨by show (0 : Int) ≤ i; omega, by show (i : Int) < H; omega, by show (0 : Int) ≤ j; omega, by show (j : Int) < W; omega⟩
      have h2 : at_ 0 T ((i : Int), (j : Int)) = k := by
        unfold at_
        show ((T[((i : Nat) : Int).toNat]?.getD [])[((j : Nat) : Int).toNat]?).getD 0 = k
        rw [Int.toNat_natCast, Int.toNat_natCast, hi]
        show (row[j]?).getD 0 = k
        rw [hj]
        rfl
      rw [h2] at h1
      exact h1
    have hkl : k.toNat < pal.length := by omega
    have h1 := getp (hp.ok _ (List.getElem_mem hkl)).1 hpn
    rw [hpc] at h1
    refine Ok.eq (Ok.of (getI_nat hk2.1 (List.getElem?_eq_getElem hkl)) (Ok.of h1 (Ok.mk ?_)))
    show _ = pl (pal[k.toNat]?.getD []) p.toNat
    rw [List.getElem?_eq_getElem hkl]
    rfl
  · have h1 := getp hend.lost hpn
    rw [hpc] at h1
    refine Ok.of h1 (ok_cond (fun hne => ?_) fun _ => Ok.mk rfl)
    exfalso
    have hc := consv hH0 hn hs hpn (pal := pal) (T := T) (st0_ok (sh := sh) (way := way) h) hall (later_sp (q := []) hs rfl)
    have z0 : pl (st0 sh way n pic).1.2.2 p.toNat = 0 := by
      show pl (List.replicate n 0) _ = 0
      unfold pl
      rw [List.getElem?_replicate]
      split <;> rfl
    have z1 : ((spF H W way).map fun g => pl (at_ [] (st0 sh way n pic).2 g) p.toNat).sum = (pic.map fun row => (row.map fun c => pl c p.toNat).sum).sum := sp_sum (d := ([] : Col)) hr fun c => pl c p.toNat
    have z2 : ((spF H W way).map fun f => pl (cT pal T f) p.toNat).sum = (T.map fun row => (row.map fun k => pl (pal[k.toNat]?.getD []) p.toNat).sum).sum := sp_sum (d := (0 : Int)) hT.1 fun k => pl (pal[k.toNat]?.getD []) p.toNat
    rw [z0, z1, z2] at hc
    have hc2 : (List.map (fun row => (List.map (fun c => pl c p.toNat) row).sum) pic).sum = (List.map (fun row => (List.map (fun k => pl (pal[k.toNat]?.getD []) p.toNat) row).sum) T).sum + pl (run pal T (st0 sh way n pic) (spF H W way)).1.2.2 p.toNat := by omega
    rw [hc2] at hne
    simp at hne
end
theorem popI_ok {α : Type} {xs : List α} {i : Int} (h0 : 0 ≤ i) (h1 : i < xs.length) (hl : xs.length ≤ 1000) : Ok (popI xs i) fun r => r.1 ∈ xs ∧ r.2.length + 1 = xs.length ∧ r.2.Sublist xs := by
  have h2 : i.toNat < xs.length := by omega
  unfold popI
  rw [if_pos ⟨by omega, by omega⟩, ixN_nat h0 h1]
  show Ok ((xs[i.toNat]?).bind _) _
  rw [List.getElem?_eq_getElem h2]
  exact Ok.mk ⟨List.getElem_mem h2, by rw [List.length_eraseIdx_of_lt h2]; omega, List.eraseIdx_sublist _ _⟩
theorem shares_ok {n : Nat} {left : List Int} (h : Lk n left) (hn : n ≤ 500000) : Ok (m_law_shares left) fun r => Sh r.1 ∧ Lk (n + 100) r.2 := by
  unfold m_law_shares
  refine Ok.bind (pick_ok h (by omega) (by omega) (by omega)) ?_
  rintro ⟨t, c⟩ ⟨_, _, h3⟩
  refine ok_cond (fun _ => Ok.mk ⟨⟨by show 4 ≤ 12; decide, fun s hs => ?_⟩, h3.mono (by omega)⟩) fun _ => ?_
  · dsimp only at hs
    simp only [List.mem_cons, List.not_mem_nil, or_false] at hs
    rcases hs with e | e | e | e <;> subst e <;> decide
  have lr : (rng (-2) 3).length = 5 := by rw [rng_len]; rfl
  refine ok_rng (by omega) (by omega) (ok_len (by omega) (ok_len (by rw [List.length_map, lr]; decide) (ok_rng (by omega) (by omega) (ok_len (by omega) (ok_len (by rw [List.length_append, List.length_map, List.length_map, lr]; decide) (Ok.bind (pick_ok h3 (by omega) (by omega) (by omega)) ?_))))))
  rintro ⟨t2, c2⟩ ⟨g1, g2, g3⟩
  refine Ok.bind (pick_ok g3 (by omega) (by omega) (by omega)) ?_
  rintro ⟨t3, c3⟩ ⟨_, _, f3⟩
  dsimp only at g1 g2 f3 ⊢
  have hb := b2_ix (decide (t3 = 0))
  refine ok_get hb.1 hb.2 fun many _ hm => ?_
  have hmany : 0 ≤ many ∧ many ≤ 12 := by
    simp only [List.mem_cons, List.not_mem_nil, or_false] at hm
    omega
  have lm : (rng 0 many).length = many.toNat := by rw [rng_len]; omega
  refine ok_rng (by omega) (by omega) (Ok.bind (ok_forN (fun k (s : List Int × List (Int × Int) × Shares) => Lk (n + 3 + 3 * k) s.1 ∧ s.2.1.length + k = 12 ∧ (∀ x ∈ s.2.1, (0 < x.2 ∨ x.2 = 0 ∧ 0 < x.1) ∧ (-2 ≤ x.1 ∧ x.1 ≤ 2)) ∧ s.2.2.length = k ∧ ∀ y ∈ s.2.2, (0 < y.2.1 ∨ y.2.1 = 0 ∧ 0 < y.1) ∧ (-2 ≤ y.1 ∧ y.1 ≤ 2) ∧ 1 ≤ y.2.2 ∧ y.2.2 ≤ 64) ⟨f3, ?_, ?_, rfl, fun _ z => nomatch z⟩ ?_) ?_)
  · rw [List.length_append, List.length_append, List.length_map, List.length_map, lr]
    rfl
  · intro x hx
    rcases List.mem_append.mp hx with z | z
    · rcases List.mem_append.mp z with z | z
      · simp only [List.mem_cons, List.not_mem_nil, or_false] at z
        rcases z with e | e <;> subst e <;> decide
      · obtain ⟨a, ha, rfl⟩ := List.mem_map.mp z
        have := mem_rng.mp ha
        exact ⟨.inl (by show (0 : Int) < 1; decide), by show -2 ≤ a; omega, by show a ≤ 2; omega⟩
    · obtain ⟨a, ha, rfl⟩ := List.mem_map.mp z
      have := mem_rng.mp ha
      exact ⟨.inl (by show (0 : Int) < 2; decide), by show -2 ≤ a; omega, by show a ≤ 2; omega⟩
  · rintro k _ ⟨lf, rest, found⟩ _ hk ⟨i1, i2, i3, i4, i5⟩
    dsimp only at i1 i2 i3 i4 i5 ⊢
    refine Ok.bind (pick_ok i1 (by omega) (by omega) (by omega)) ?_
    rintro ⟨u, c4⟩ ⟨u1, u2, u3⟩
    dsimp only at u1 u2 u3 ⊢
    refine Ok.bind (popI_ok u1 u2 (by omega)) ?_
    rintro ⟨x, rest'⟩ ⟨x1, x2, x3⟩
    dsimp only at x1 x2 x3 ⊢
    refine Ok.bind (pick_ok u3 (by omega) (by omega) (by omega)) ?_
    rintro ⟨v, c5⟩ ⟨v1, v2, v3⟩
    refine Ok.bind (pick_ok v3 (by omega) (by omega) (by omega)) ?_
    rintro ⟨w, c6⟩ ⟨w1, w2, w3⟩
    dsimp only at v1 v2 w1 w2 w3 ⊢
    refine ok_get w1 w2 fun parts _ hpm => ok_len (by omega) (Ok.mk ⟨w3.mono (by omega), by show rest'.length + (k + 1) = 12; omega, fun y hy => i3 y (x3.subset hy), ?_, fun y hy => ?_⟩)
    · show (found ++ [_]).length = k + 1
      rw [List.length_append, i4]
      rfl
    · rcases List.mem_append.mp hy with z | z
      · exact i5 y z
      · rw [List.mem_singleton.mp z]
        simp only [List.mem_cons, List.not_mem_nil, or_false] at hpm
        have hx := i3 x x1
        exact ⟨hx.1, hx.2, by show 1 ≤ parts; omega, by show parts ≤ 64; omega⟩
  · rintro ⟨lf, rest, found⟩ ⟨i1, i2, i3, i4, i5⟩
    dsimp only at i1 i2 i3 i4 i5 ⊢
    exact Ok.mk ⟨⟨by show found.length ≤ 12; omega, i5⟩, i1.mono (by omega)⟩
theorem no_none (xs : List Int) : memB (none : Option Int) (xs.map some) = false := by
  unfold memB
  rw [List.any_map, List.any_eq_false]
  intro x _ h
  have h2 : decide (some x = none) = true := h
  exact absurd (of_decide_eq_true h2) (by simp)
theorem law_plain (ns : List Int) (hl : ns.length ≤ 63) : m_law ns = some true := by
  refine Ok.eq ?_
  unfold m_law
  have hm : 0 ≤ min2 (3 : Int) (ns.length : Int) ∧ min2 (3 : Int) (ns.length : Int) ≤ 3 := by
    unfold min2
    split <;> omega
  refine ok_rng (by omega) (by omega) (Ok.of (ok_forC0 fun k hk => ?_) (Ok.mk rfl))
  have hk2 := mem_rng.mp hk
  refine Ok.eq (Ok.bind (left_ok (ns := ns) (k := k) (by omega)) ?_)
  rintro l ⟨a, b, rfl⟩
  refine Ok.of (a := b) rfl (Ok.of (a := [a, b + 1000, 0]) rfl ?_)
  have l0 : Lk 0 [a, b + 1000, 0] := ⟨_, _, _, rfl, by omega, by omega⟩
  refine Ok.bind (kind_ok l0 (by omega)) ?_
  rintro ⟨kind, lf1⟩ ⟨hkind, l1⟩
  dsimp only at hkind l1 ⊢
  have hn : kind.1.toNat ≤ 16 := by
    have := hkind.1.2
    omega
  refine Ok.bind (pictureW_ok hkind l1 (by omega)) ?_
  rintro ⟨pic, lf2⟩ ⟨H, W, ⟨hH0, hW0, hH, hW⟩, hpic, l2⟩
  dsimp only at hpic l2 ⊢
  refine Ok.bind (palette_ok hkind l2 (by omega)) ?_
  rintro ⟨pal, lf3⟩ ⟨hpal, l3⟩
  dsimp only at hpal l3 ⊢
  refine Ok.bind (shares_ok l3 (by omega)) ?_
  rintro ⟨sh, lf4⟩ ⟨hsh, l4⟩
  dsimp only at hsh l4 ⊢
  have hr := hpic.rect
  have hp0 : 0 < pal.length := List.length_pos_iff.mpr hpal.ne
  have hpl := hpal.len
  refine ok_len (by rw [hr.1]; omega) (Ok.bind (ok_mapSN (fun k s => Lk (20000 + 20 * k) s) (fun y : List Int => y.length = W ∧ ∀ x ∈ y, 0 ≤ x ∧ x < pal.length) (k := 0) (l4.mono (by omega)) ?_) ?_)
  · intro j row s hrow hj hs
    have hw := hr.2 row hrow
    have hj2 : j < 16 := by
      rw [hr.1] at hj
      omega
    refine ok_len (by omega) (Ok.bind (ok_mapSN (fun i s => Lk (20000 + 20 * j + i) s) (fun x : Int => 0 ≤ x ∧ x < pal.length) (k := 0) (hs.mono (by omega)) ?_) ?_)
    · intro i x s2 _ hi hs2
      refine Ok.bind (pick_ok hs2 (by omega) (by omega) (by omega)) ?_
      rintro ⟨t, c⟩ ⟨t1, t2, t3⟩
      exact Ok.mk ⟨⟨t1, t2⟩, t3⟩
    · rintro ⟨o, c⟩ ⟨o1, o2, o3⟩
      have o1' : o.length = row.length := o1
      exact Ok.mk ⟨⟨o1'.trans hw, o2⟩, o3.mono (by omega)⟩
  rintro ⟨drawn, lf5⟩ ⟨d1, d2, _⟩
  dsimp only at d1 d2 ⊢
  have hd : TOk H W pal drawn := by
    have hrect : Rect H W drawn := ⟨d1.trans hr.1, fun r hr' => (d2 r hr').1⟩
    refine ⟨hrect, fun f hf => ?_⟩
    obtain ⟨r, h1, h2⟩ := at_mem (d := (0 : Int)) hrect hf
    exact (d2 r h1).2 _ h2
  refine Ok.of (ok_forC0 fun way _ => ?_) (Ok.mk rfl)
  refine Ok.eq (Ok.bind (handed_ok hH0 hW0 hH hW hn hsh hpic hpal.ok hpal.len hpal.ne) ?_)
  rintro ⟨T, lost⟩ ⟨hT, e⟩
  dsimp only at hT e ⊢
  subst e
  refine Ok.of (walked_eq hH0 hW0 hH hW hn hsh hpic hpal hT) (ok_cond (fun hne => ?_) fun _ => Ok.of (sums_eq hH0 hH hW hn hsh hpic hpal hT) (ok_cond (fun hne => nomatch hne) fun _ => Ok.of (walked_eq hH0 hW0 hH hW hn hsh hpic hpal hd) (ok_cond (fun hne => ?_) fun _ => Ok.mk rfl)))
  · exfalso
    simp at hne
  · rw [no_none] at hne
    cases hne
end K83
set_option maxHeartbeats 2000000
namespace K83
open PySem PySem.Spec PyProof.Rows L2 Evl FC
theorem all_mk {l : PySem.W.OpenLaw} {w : World} {K : PySem.W.Frag} {h : Heap} {mg : Str → Option Value} {fa f1 f2 f3 f4 f5 f6 f7 f8 f9 f10 f11 f12 f13 f14 f15 f16 f17 f18 f19 f20 f21 f22 f23 f24 f25 f26 C_Handing : Addr} (X : K.In h) (G : h.Ns mainGlobals mg) (hfa : mg "law" = some (.ref fa))
    {od1 an1 od2 an2 od3 an3 od4 an4 od5 an5 od6 an6 od7 an7 od8 an8 od9 an9 od10 an10 od11 an11 od12 an12 od13 an13 od14 an14 od15 an15 od16 an16 od17 an17 od18 an18 od19 an19 od20 an20 od21 an21 od22 an22 od23 an23 od24 an24 od25 an25 od26 an26 : Option Addr} {sl1 sl2 sl3 sl4 sl5 sl6 sl7 sl8 sl9 sl10 sl11 sl12 sl13 sl14 sl15 sl16 sl17 sl18 sl19 sl20 sl21 sl22 sl23 sl24 sl25 sl26 : Array (Option Value)} {oc1 kV1 dc1 pm1 cd1 ct1 oc2 kV2 dc2 pm2 cd2 ct2 oc3 kV3 dc3 pm3 cd3 ct3 oc4 kV4 dc4 pm4 cd4 ct4 oc5 kV5 dc5 pm5 cd5 ct5 oc6 kV6 dc6 pm6 cd6 ct6 oc7 kV7 dc7 pm7 cd7 ct7 oc8 kV8 dc8 pm8 cd8 ct8 oc9 kV9 dc9 pm9 cd9 ct9 oc10 kV10 dc10 pm10 cd10 ct10 oc11 kV11 dc11 pm11 cd11 ct11 oc12 kV12 dc12 pm12 cd12 ct12 oc13 kV13 dc13 pm13 cd13 ct13 oc14 kV14 dc14 pm14 cd14 ct14 oc15 kV15 dc15 pm15 cd15 ct15 oc16 kV16 dc16 pm16 cd16 ct16 oc17 kV17 dc17 pm17 cd17 ct17 oc18 kV18 dc18 pm18 cd18 ct18 oc19 kV19 dc19 pm19 cd19 ct19 oc20 kV20 dc20 pm20 cd20 ct20 oc21 kV21 dc21 pm21 cd21 ct21 oc22 kV22 dc22 pm22 cd22 ct22 oc23 kV23 dc23 pm23 cd23 ct23 oc24 kV24 dc24 pm24 cd24 ct24 oc25 kV25 dc25 pm25 cd25 ct25 oc26 kV26 dc26 pm26 cd26 ct26 : Value} {t_TURNED : Tok}
    (aC_Handing : PySem.W.nsIn K mainGlobals "Handing" = some (some (.ref C_Handing)))
    (pg_Handing : PySem.W.plainGet K C_Handing Str.empty = true)
    (hd_Handing : PySem.W.hasDictIn K C_Handing = true)
    (po_Handing : PySem.W.plainOver K C_Handing = true)
    (sa_Handing : PySem.W.findIn K (.ref C_Handing) "__setattr__" = some (some (.builtin "object.__setattr__")))
    (mk_Handing : PySem.W.makesIn K C_Handing = true)
    (kc_Handing : PySem.W.keepIn K (.ref C_Handing) = true)
    (na_Handing_own_lost : PySem.W.findIn K (.ref C_Handing) "own_lost" = some none)
    (na_Handing_own_shares : PySem.W.findIn K (.ref C_Handing) "own_shares" = some none)
    (na_Handing_own_wanted : PySem.W.findIn K (.ref C_Handing) "own_wanted" = some none)
    (na_Handing_own_way : PySem.W.findIn K (.ref C_Handing) "own_way" = some none)
    (a1 : PySem.W.nsIn K mainGlobals "apart" = some (some (.ref f1)))
    (l1 : K.lookup f1 = some ⟨oc1, od1, .func (PySem.W.fnOf "apart" "apart" (defArgs sm_apart) (defBody sm_apart) (defScope sm_apart) .none kV1 dc1 pm1 an1 cd1 ct1), sl1⟩)
    (c1 : PySem.W.codeIn K cd1 "apart" = true)
    (k1 : PySem.W.keepIn K (.ref f1) = true)
    (a2 : PySem.W.nsIn K mainGlobals "squares_by" = some (some (.ref f2)))
    (l2 : K.lookup f2 = some ⟨oc2, od2, .func (PySem.W.fnOf "squares_by" "squares_by" (defArgs sm_squares_by) (defBody sm_squares_by) (defScope sm_squares_by) .none kV2 dc2 pm2 an2 cd2 ct2), sl2⟩)
    (c2 : PySem.W.codeIn K cd2 "squares_by" = true)
    (k2 : PySem.W.keepIn K (.ref f2) = true)
    (a3 : PySem.W.nsIn K mainGlobals "nearest" = some (some (.ref f3)))
    (l3 : K.lookup f3 = some ⟨oc3, od3, .func (PySem.W.fnOf "nearest" "nearest" (defArgs sm_nearest) (defBody sm_nearest) (defScope sm_nearest) .none kV3 dc3 pm3 an3 cd3 ct3), sl3⟩)
    (c3 : PySem.W.codeIn K cd3 "nearest" = true)
    (k3 : PySem.W.keepIn K (.ref f3) = true)
    (a4 : PySem.W.findIn K (.ref C_Handing) "__init__" = some (some (.ref f4)))
    (i4 : PySem.W.isFn K (.ref f4) = true)
    (l4 : K.lookup f4 = some ⟨oc4, od4, .func (PySem.W.fnOf "__init__" "Handing.__init__" (defArgs sm_Handing_init) (defBody sm_Handing_init) (defScope sm_Handing_init) .none kV4 dc4 pm4 an4 cd4 ct4), sl4⟩)
    (c4 : PySem.W.codeIn K cd4 "Handing.__init__" = true)
    (k4 : PySem.W.keepIn K (.ref f4) = true)
    (a5 : PySem.W.findIn K (.ref C_Handing) "side_of" = some (some (.ref f5)))
    (i5 : PySem.W.isFn K (.ref f5) = true)
    (l5 : K.lookup f5 = some ⟨oc5, od5, .func (PySem.W.fnOf "side_of" "Handing.side_of" (defArgs sm_Handing_side_of) (defBody sm_Handing_side_of) (defScope sm_Handing_side_of) .none kV5 dc5 pm5 an5 cd5 ct5), sl5⟩)
    (c5 : PySem.W.codeIn K cd5 "Handing.side_of" = true)
    (k5 : PySem.W.keepIn K (.ref f5) = true)
    (a6 : PySem.W.findIn K (.ref C_Handing) "spots_in_turn" = some (some (.ref f6)))
    (i6 : PySem.W.isFn K (.ref f6) = true)
    (l6 : K.lookup f6 = some ⟨oc6, od6, .func (PySem.W.fnOf "spots_in_turn" "Handing.spots_in_turn" (defArgs sm_Handing_spots_in_turn) (defBody sm_Handing_spots_in_turn) (defScope sm_Handing_spots_in_turn) .none kV6 dc6 pm6 an6 cd6 ct6), sl6⟩)
    (c6 : PySem.W.codeIn K cd6 "Handing.spots_in_turn" = true)
    (k6 : PySem.W.keepIn K (.ref f6) = true)
    (a7 : PySem.W.findIn K (.ref C_Handing) "takers" = some (some (.ref f7)))
    (i7 : PySem.W.isFn K (.ref f7) = true)
    (l7 : K.lookup f7 = some ⟨oc7, od7, .func (PySem.W.fnOf "takers" "Handing.takers" (defArgs sm_Handing_takers) (defBody sm_Handing_takers) (defScope sm_Handing_takers) .none kV7 dc7 pm7 an7 cd7 ct7), sl7⟩)
    (c7 : PySem.W.codeIn K cd7 "Handing.takers" = true)
    (k7 : PySem.W.keepIn K (.ref f7) = true)
    (a8 : PySem.W.findIn K (.ref C_Handing) "wanted_at" = some (some (.ref f8)))
    (i8 : PySem.W.isFn K (.ref f8) = true)
    (l8 : K.lookup f8 = some ⟨oc8, od8, .func (PySem.W.fnOf "wanted_at" "Handing.wanted_at" (defArgs sm_Handing_wanted_at) (defBody sm_Handing_wanted_at) (defScope sm_Handing_wanted_at) .none kV8 dc8 pm8 an8 cd8 ct8), sl8⟩)
    (c8 : PySem.W.codeIn K cd8 "Handing.wanted_at" = true)
    (k8 : PySem.W.keepIn K (.ref f8) = true)
    (a9 : PySem.W.findIn K (.ref C_Handing) "more_at" = some (some (.ref f9)))
    (i9 : PySem.W.isFn K (.ref f9) = true)
    (l9 : K.lookup f9 = some ⟨oc9, od9, .func (PySem.W.fnOf "more_at" "Handing.more_at" (defArgs sm_Handing_more_at) (defBody sm_Handing_more_at) (defScope sm_Handing_more_at) .none kV9 dc9 pm9 an9 cd9 ct9), sl9⟩)
    (c9 : PySem.W.codeIn K cd9 "Handing.more_at" = true)
    (k9 : PySem.W.keepIn K (.ref f9) = true)
    (a10 : PySem.W.findIn K (.ref C_Handing) "tell" = some (some (.ref f10)))
    (i10 : PySem.W.isFn K (.ref f10) = true)
    (l10 : K.lookup f10 = some ⟨oc10, od10, .func (PySem.W.fnOf "tell" "Handing.tell" (defArgs sm_Handing_tell) (defBody sm_Handing_tell) (defScope sm_Handing_tell) .none kV10 dc10 pm10 an10 cd10 ct10), sl10⟩)
    (c10 : PySem.W.codeIn K cd10 "Handing.tell" = true)
    (k10 : PySem.W.keepIn K (.ref f10) = true)
    (a11 : PySem.W.nsIn K mainGlobals "wanted_by" = some (some (.ref f11)))
    (l11 : K.lookup f11 = some ⟨oc11, od11, .func (PySem.W.fnOf "wanted_by" "wanted_by" (defArgs sm_wanted_by) (defBody sm_wanted_by) (defScope sm_wanted_by) .none kV11 dc11 pm11 an11 cd11 ct11), sl11⟩)
    (c11 : PySem.W.codeIn K cd11 "wanted_by" = true)
    (k11 : PySem.W.keepIn K (.ref f11) = true)
    (a12 : PySem.W.nsIn K mainGlobals "handed_on" = some (some (.ref f12)))
    (l12 : K.lookup f12 = some ⟨oc12, od12, .func (PySem.W.fnOf "handed_on" "handed_on" (defArgs sm_handed_on) (defBody sm_handed_on) (defScope sm_handed_on) .none kV12 dc12 pm12 an12 cd12 ct12), sl12⟩)
    (c12 : PySem.W.codeIn K cd12 "handed_on" = true)
    (k12 : PySem.W.keepIn K (.ref f12) = true)
    (a13 : PySem.W.nsIn K mainGlobals "_law_mix" = some (some (.ref f13)))
    (l13 : K.lookup f13 = some ⟨oc13, od13, .func (PySem.W.fnOf "_law_mix" "_law_mix" (defArgs sm_law_mix) (defBody sm_law_mix) (defScope sm_law_mix) .none kV13 dc13 pm13 an13 cd13 ct13), sl13⟩)
    (c13 : PySem.W.codeIn K cd13 "_law_mix" = true)
    (k13 : PySem.W.keepIn K (.ref f13) = true)
    (a14 : PySem.W.nsIn K mainGlobals "_law_left" = some (some (.ref f14)))
    (l14 : K.lookup f14 = some ⟨oc14, od14, .func (PySem.W.fnOf "_law_left" "_law_left" (defArgs sm_law_left) (defBody sm_law_left) (defScope sm_law_left) .none kV14 dc14 pm14 an14 cd14 ct14), sl14⟩)
    (c14 : PySem.W.codeIn K cd14 "_law_left" = true)
    (k14 : PySem.W.keepIn K (.ref f14) = true)
    (a15 : PySem.W.nsIn K mainGlobals "_law_pick" = some (some (.ref f15)))
    (l15 : K.lookup f15 = some ⟨oc15, od15, .func (PySem.W.fnOf "_law_pick" "_law_pick" (defArgs sm_law_pick) (defBody sm_law_pick) (defScope sm_law_pick) .none kV15 dc15 pm15 an15 cd15 ct15), sl15⟩)
    (c15 : PySem.W.codeIn K cd15 "_law_pick" = true)
    (k15 : PySem.W.keepIn K (.ref f15) = true)
    (a16 : PySem.W.nsIn K mainGlobals "_law_kind" = some (some (.ref f16)))
    (l16 : K.lookup f16 = some ⟨oc16, od16, .func (PySem.W.fnOf "_law_kind" "_law_kind" (defArgs sm_law_kind) (defBody sm_law_kind) (defScope sm_law_kind) .none kV16 dc16 pm16 an16 cd16 ct16), sl16⟩)
    (c16 : PySem.W.codeIn K cd16 "_law_kind" = true)
    (k16 : PySem.W.keepIn K (.ref f16) = true)
    (a17 : PySem.W.nsIn K mainGlobals "_law_colour" = some (some (.ref f17)))
    (l17 : K.lookup f17 = some ⟨oc17, od17, .func (PySem.W.fnOf "_law_colour" "_law_colour" (defArgs sm_law_colour) (defBody sm_law_colour) (defScope sm_law_colour) .none kV17 dc17 pm17 an17 cd17 ct17), sl17⟩)
    (c17 : PySem.W.codeIn K cd17 "_law_colour" = true)
    (k17 : PySem.W.keepIn K (.ref f17) = true)
    (a18 : PySem.W.nsIn K mainGlobals "_law_palette" = some (some (.ref f18)))
    (l18 : K.lookup f18 = some ⟨oc18, od18, .func (PySem.W.fnOf "_law_palette" "_law_palette" (defArgs sm_law_palette) (defBody sm_law_palette) (defScope sm_law_palette) .none kV18 dc18 pm18 an18 cd18 ct18), sl18⟩)
    (c18 : PySem.W.codeIn K cd18 "_law_palette" = true)
    (k18 : PySem.W.keepIn K (.ref f18) = true)
    (a19 : PySem.W.nsIn K mainGlobals "_law_picture" = some (some (.ref f19)))
    (l19 : K.lookup f19 = some ⟨oc19, od19, .func (PySem.W.fnOf "_law_picture" "_law_picture" (defArgs sm_law_picture) (defBody sm_law_picture) (defScope sm_law_picture) .none kV19 dc19 pm19 an19 cd19 ct19), sl19⟩)
    (c19 : PySem.W.codeIn K cd19 "_law_picture" = true)
    (k19 : PySem.W.keepIn K (.ref f19) = true)
    (a20 : PySem.W.nsIn K mainGlobals "_law_shares" = some (some (.ref f20)))
    (l20 : K.lookup f20 = some ⟨oc20, od20, .func (PySem.W.fnOf "_law_shares" "_law_shares" (defArgs sm_law_shares) (defBody sm_law_shares) (defScope sm_law_shares) .none kV20 dc20 pm20 an20 cd20 ct20), sl20⟩)
    (c20 : PySem.W.codeIn K cd20 "_law_shares" = true)
    (k20 : PySem.W.keepIn K (.ref f20) = true)
    (a21 : PySem.W.nsIn K mainGlobals "_law_turns" = some (some (.ref f21)))
    (l21 : K.lookup f21 = some ⟨oc21, od21, .func (PySem.W.fnOf "_law_turns" "_law_turns" (defArgs sm_law_turns) (defBody sm_law_turns) (defScope sm_law_turns) .none kV21 dc21 pm21 an21 cd21 ct21), sl21⟩)
    (c21 : PySem.W.codeIn K cd21 "_law_turns" = true)
    (k21 : PySem.W.keepIn K (.ref f21) = true)
    (a22 : PySem.W.nsIn K mainGlobals "_law_pieces" = some (some (.ref f22)))
    (l22 : K.lookup f22 = some ⟨oc22, od22, .func (PySem.W.fnOf "_law_pieces" "_law_pieces" (defArgs sm_law_pieces) (defBody sm_law_pieces) (defScope sm_law_pieces) .none kV22 dc22 pm22 an22 cd22 ct22), sl22⟩)
    (c22 : PySem.W.codeIn K cd22 "_law_pieces" = true)
    (k22 : PySem.W.keepIn K (.ref f22) = true)
    (a23 : PySem.W.nsIn K mainGlobals "_law_place_right" = some (some (.ref f23)))
    (l23 : K.lookup f23 = some ⟨oc23, od23, .func (PySem.W.fnOf "_law_place_right" "_law_place_right" (defArgs sm_law_place_right) (defBody sm_law_place_right) (defScope sm_law_place_right) .none kV23 dc23 pm23 an23 cd23 ct23), sl23⟩)
    (c23 : PySem.W.codeIn K cd23 "_law_place_right" = true)
    (k23 : PySem.W.keepIn K (.ref f23) = true)
    (a24 : PySem.W.nsIn K mainGlobals "_law_walked" = some (some (.ref f24)))
    (l24 : K.lookup f24 = some ⟨oc24, od24, .func (PySem.W.fnOf "_law_walked" "_law_walked" (defArgs sm_law_walked) (defBody sm_law_walked) (defScope sm_law_walked) .none kV24 dc24 pm24 an24 cd24 ct24), sl24⟩)
    (c24 : PySem.W.codeIn K cd24 "_law_walked" = true)
    (k24 : PySem.W.keepIn K (.ref f24) = true)
    (a25 : PySem.W.nsIn K mainGlobals "_law_sums_right" = some (some (.ref f25)))
    (l25 : K.lookup f25 = some ⟨oc25, od25, .func (PySem.W.fnOf "_law_sums_right" "_law_sums_right" (defArgs sm_law_sums_right) (defBody sm_law_sums_right) (defScope sm_law_sums_right) .none kV25 dc25 pm25 an25 cd25 ct25), sl25⟩)
    (c25 : PySem.W.codeIn K cd25 "_law_sums_right" = true)
    (k25 : PySem.W.keepIn K (.ref f25) = true)
    (a26 : PySem.W.nsIn K mainGlobals "law" = some (some (.ref f26)))
    (l26 : K.lookup f26 = some ⟨oc26, od26, .func (PySem.W.fnOf "law" "law" (defArgs sm_law) (defBody sm_law) (defScope sm_law) .none kV26 dc26 pm26 an26 cd26 ct26), sl26⟩)
    (c26 : PySem.W.codeIn K cd26 "law" = true)
    (k26 : PySem.W.keepIn K (.ref f26) = true)
    (aq_TURNED : PySem.W.nsIn K mainGlobals "TURNED" = some (some (.str (Str.ofString "turned") t_TURNED)))
    (z_abs : PySem.W.nsIn K mainGlobals "abs" = some none)
    (z_enumerate : PySem.W.nsIn K mainGlobals "enumerate" = some none)
    (z_int : PySem.W.nsIn K mainGlobals "int" = some none)
    (z_len : PySem.W.nsIn K mainGlobals "len" = some none)
    (z_list : PySem.W.nsIn K mainGlobals "list" = some none)
    (z_min : PySem.W.nsIn K mainGlobals "min" = some none)
    (z_range : PySem.W.nsIn K mainGlobals "range" = some none)
    (z_sum : PySem.W.nsIn K mainGlobals "sum" = some none)
    (z_tuple : PySem.W.nsIn K mainGlobals "tuple" = some none)
    (z_zip : PySem.W.nsIn K mainGlobals "zip" = some none) :
    ∃ fd : FuncData, (∀ (s : Shared) (v : Value), BindsTo s fd ⟨[v], []⟩ [("script", v)]) ∧ ∀ base : Heap, K.In base → base.Ns mainGlobals mg → FnOk l.prog w K mg base CX0 6 fa fd ["script"] (spOf K pf_m_law) := by
  have e := hfa.symm.trans (PySem.W.mg_of X G a26)
  cases e
  have cc_Handing : Cls K C_Handing := ⟨pg_Handing, hd_Handing, po_Handing, sa_Handing⟩
  have F1 := fun_mk (st := sm_apart) l1 c1 k1
  have b1 := F1.binds (ps := ["one", "other"]) fun _ _ _ _ _ _ us hl => match us, hl with | [_, _], _ => rfl
  have F2 := fun_mk (st := sm_squares_by) l2 c2 k2
  have b2 := F2.binds (ps := ["palette", "colour"]) fun _ _ _ _ _ _ us hl => match us, hl with | [_, _], _ => rfl
  have F3 := fun_mk (st := sm_nearest) l3 c3 k3
  have b3 := F3.binds (ps := ["palette", "colour"]) fun _ _ _ _ _ _ us hl => match us, hl with | [_, _], _ => rfl
  have F4 := fun_mk (st := sm_Handing_init) l4 c4 k4
  have b4 := F4.binds (ps := ["self", "picture", "shares", "way"]) fun _ _ _ _ _ _ us hl => match us, hl with | [_, _, _, _], _ => rfl
  have F5 := fun_mk (st := sm_Handing_side_of) l5 c5 k5
  have b5 := F5.binds (ps := ["self", "row"]) fun _ _ _ _ _ _ us hl => match us, hl with | [_, _], _ => rfl
  have F6 := fun_mk (st := sm_Handing_spots_in_turn) l6 c6 k6
  have b6 := F6.binds (ps := ["self"]) fun _ _ _ _ _ _ us hl => match us, hl with | [_], _ => rfl
  have F7 := fun_mk (st := sm_Handing_takers) l7 c7 k7
  have b7 := F7.binds (ps := ["self", "row", "column"]) fun _ _ _ _ _ _ us hl => match us, hl with | [_, _, _], _ => rfl
  have F8 := fun_mk (st := sm_Handing_wanted_at) l8 c8 k8
  have b8 := F8.binds (ps := ["self", "row", "column"]) fun _ _ _ _ _ _ us hl => match us, hl with | [_, _, _], _ => rfl
  have F9 := fun_mk (st := sm_Handing_more_at) l9 c9 k9
  have b9 := F9.binds (ps := ["self", "spot", "more"]) fun _ _ _ _ _ _ us hl => match us, hl with | [_, _, _], _ => rfl
  have F10 := fun_mk (st := sm_Handing_tell) l10 c10 k10
  have b10 := F10.binds (ps := ["self", "row", "column", "colour"]) fun _ _ _ _ _ _ us hl => match us, hl with | [_, _, _, _], _ => rfl
  have F11 := fun_mk (st := sm_wanted_by) l11 c11 k11
  have b11 := F11.binds (ps := ["picture", "palette", "shares", "way", "numbers"]) fun _ _ _ _ _ _ us hl => match us, hl with | [_, _, _, _, _], _ => rfl
  have F12 := fun_mk (st := sm_handed_on) l12 c12 k12
  have b12 := F12.binds (ps := ["picture", "palette", "shares", "way"]) fun _ _ _ _ _ _ us hl => match us, hl with | [_, _, _, _], _ => rfl
  have F13 := fun_mk (st := sm_law_mix) l13 c13 k13
  have b13 := F13.binds (ps := ["cell", "k"]) fun _ _ _ _ _ _ us hl => match us, hl with | [_, _], _ => rfl
  have F14 := fun_mk (st := sm_law_left) l14 c14 k14
  have b14 := F14.binds (ps := ["script", "k"]) fun _ _ _ _ _ _ us hl => match us, hl with | [_, _], _ => rfl
  have F15 := fun_mk (st := sm_law_pick) l15 c15 k15
  have b15 := F15.binds (ps := ["left", "many"]) fun _ _ _ _ _ _ us hl => match us, hl with | [_, _], _ => rfl
  have F16 := fun_mk (st := sm_law_kind) l16 c16 k16
  have b16 := F16.binds (ps := ["left"]) fun _ _ _ _ _ _ us hl => match us, hl with | [_], _ => rfl
  have F17 := fun_mk (st := sm_law_colour) l17 c17 k17
  have b17 := F17.binds (ps := ["left", "kind"]) fun _ _ _ _ _ _ us hl => match us, hl with | [_, _], _ => rfl
  have F18 := fun_mk (st := sm_law_palette) l18 c18 k18
  have b18 := F18.binds (ps := ["left", "kind"]) fun _ _ _ _ _ _ us hl => match us, hl with | [_, _], _ => rfl
  have F19 := fun_mk (st := sm_law_picture) l19 c19 k19
  have b19 := F19.binds (ps := ["left", "kind"]) fun _ _ _ _ _ _ us hl => match us, hl with | [_, _], _ => rfl
  have F20 := fun_mk (st := sm_law_shares) l20 c20 k20
  have b20 := F20.binds (ps := ["left"]) fun _ _ _ _ _ _ us hl => match us, hl with | [_], _ => rfl
  have F21 := fun_mk (st := sm_law_turns) l21 c21 k21
  have b21 := F21.binds (ps := ["high", "wide", "way"]) fun _ _ _ _ _ _ us hl => match us, hl with | [_, _, _], _ => rfl
  have F22 := fun_mk (st := sm_law_pieces) l22 c22 k22
  have b22 := F22.binds (ps := ["rest", "shares", "spot", "high", "wide"]) fun _ _ _ _ _ _ us hl => match us, hl with | [_, _, _, _, _], _ => rfl
  have F23 := fun_mk (st := sm_law_place_right) l23 c23 k23
  have b23 := F23.binds (ps := ["picture", "palette", "shares", "way", "numbers", "wanted", "place"]) fun _ _ _ _ _ _ us hl => match us, hl with | [_, _, _, _, _, _, _], _ => rfl
  have F24 := fun_mk (st := sm_law_walked) l24 c24 k24
  have b24 := F24.binds (ps := ["picture", "palette", "shares", "way", "numbers"]) fun _ _ _ _ _ _ us hl => match us, hl with | [_, _, _, _, _], _ => rfl
  have F25 := fun_mk (st := sm_law_sums_right) l25 c25 k25
  have b25 := F25.binds (ps := ["picture", "palette", "numbers", "lost"]) fun _ _ _ _ _ _ us hl => match us, hl with | [_, _, _, _], _ => rfl
  have F26 := fun_mk (st := sm_law) l26 c26 k26
  refine ⟨PySem.W.fnOf "law" "law" (defArgs sm_law) (defBody sm_law) (defScope sm_law) .none kV26 dc26 pm26 an26 cd26 ct26, fun s v => .of_eq rfl, fun base _ _ => ?_⟩
  have G1 : FnOk l.prog w K mg base CX0 1 f1 _ ["one", "other"] (spOf K (pf_m_apart)) := ok_m_apart F1 (PySem.W.mg_none_of X G z_sum) (PySem.W.mg_none_of X G z_zip)
  have G2 : FnOk l.prog w K mg base CX0 2 f2 _ ["palette", "colour"] (spOf K (pf_m_squares_by)) := ok_m_squares_by F2 G1 (PySem.W.mg_of X G a1) k1 b1 (PySem.W.mg_none_of X G z_enumerate)
  have G3 : FnOk l.prog w K mg base CX0 3 f3 _ ["palette", "colour"] (spOf K (pf_m_nearest)) := ok_m_nearest F3 G2 (PySem.W.mg_of X G a2) k2 b2 (PySem.W.mg_none_of X G z_min)
  have G4 : FnOk l.prog w K mg base CX0 1 f4 _ ["self", "picture", "shares", "way"] (spOf K (pf_m_Handing_init C_Handing)) := ok_m_Handing_init F4 cc_Handing na_Handing_own_lost na_Handing_own_shares na_Handing_own_wanted na_Handing_own_way (PySem.W.mg_none_of X G z_len) (PySem.W.mg_none_of X G z_list)
  have G5 : FnOk l.prog w K mg base CX0 1 f5 _ ["self", "row"] (spOf K (pf_m_Handing_side_of C_Handing)) := ok_m_Handing_side_of F5 cc_Handing na_Handing_own_way ⟨_, PySem.W.mg_of X G aq_TURNED, ⟨t_TURNED, rfl⟩⟩
  have G6 : FnOk l.prog w K mg base CX0 2 f6 _ ["self"] (spOf K (pf_m_Handing_spots_in_turn C_Handing)) := ok_m_Handing_spots_in_turn F6 cc_Handing na_Handing_own_wanted G5 ⟨a5, i5, k5⟩ b5 (PySem.W.mg_none_of X G z_enumerate) (PySem.W.mg_none_of X G z_len) (PySem.W.mg_none_of X G z_list) (PySem.W.mg_none_of X G z_range)
  have G7 : FnOk l.prog w K mg base CX0 2 f7 _ ["self", "row", "column"] (spOf K (pf_m_Handing_takers C_Handing)) := ok_m_Handing_takers F7 cc_Handing na_Handing_own_shares na_Handing_own_wanted G5 ⟨a5, i5, k5⟩ b5 (PySem.W.mg_none_of X G z_len)
  have G8 : FnOk l.prog w K mg base CX0 1 f8 _ ["self", "row", "column"] (spOf K (pf_m_Handing_wanted_at C_Handing)) := ok_m_Handing_wanted_at F8 cc_Handing na_Handing_own_wanted
  have G9 : FnOk l.prog w K mg base CX0 1 f9 _ ["self", "spot", "more"] (spOf K (pf_m_Handing_more_at C_Handing)) := ok_m_Handing_more_at F9 cc_Handing na_Handing_own_wanted (PySem.W.mg_none_of X G z_tuple) (PySem.W.mg_none_of X G z_zip)
  have G10 : FnOk l.prog w K mg base CX0 3 f10 _ ["self", "row", "column", "colour"] (spOf K (pf_m_Handing_tell C_Handing)) := ok_m_Handing_tell F10 cc_Handing na_Handing_own_lost na_Handing_own_shares na_Handing_own_wanted G9 ⟨a9, i9, k9⟩ b9 G7 ⟨a7, i7, k7⟩ b7 (PySem.W.mg_none_of X G z_enumerate) (PySem.W.mg_none_of X G z_len) (PySem.W.mg_none_of X G z_sum) (PySem.W.mg_none_of X G z_zip)
  have G11 : FnOk l.prog w K mg base CX0 4 f11 _ ["picture", "palette", "shares", "way", "numbers"] (spOf K (pf_m_wanted_by)) := ok_m_wanted_by F11 cc_Handing na_Handing_own_wanted G4 ⟨mk_Handing, a4, i4, kc_Handing⟩ (PySem.W.mg_of X G aC_Handing) b4 G6 ⟨a6, i6, k6⟩ b6 G10 ⟨a10, i10, k10⟩ b10 (PySem.W.mg_none_of X G z_list)
  have G12 : FnOk l.prog w K mg base CX0 4 f12 _ ["picture", "palette", "shares", "way"] (spOf K (pf_m_handed_on)) := ok_m_handed_on F12 cc_Handing na_Handing_own_lost G4 ⟨mk_Handing, a4, i4, kc_Handing⟩ (PySem.W.mg_of X G aC_Handing) b4 G6 ⟨a6, i6, k6⟩ b6 G10 ⟨a10, i10, k10⟩ b10 G8 ⟨a8, i8, k8⟩ b8 G3 (PySem.W.mg_of X G a3) k3 b3 (PySem.W.mg_none_of X G z_len) (PySem.W.mg_none_of X G z_tuple)
  have G13 : FnOk l.prog w K mg base CX0 1 f13 _ ["cell", "k"] (spOf K (pf_m_law_mix)) := ok_m_law_mix F13 
  have G14 : FnOk l.prog w K mg base CX0 1 f14 _ ["script", "k"] (spOf K (pf_m_law_left)) := ok_m_law_left F14 (PySem.W.mg_none_of X G z_abs) (PySem.W.mg_none_of X G z_int) (PySem.W.mg_none_of X G z_len)
  have G15 : FnOk l.prog w K mg base CX0 2 f15 _ ["left", "many"] (spOf K (pf_m_law_pick)) := ok_m_law_pick F15 G13 (PySem.W.mg_of X G a13) k13 b13
  have G16 : FnOk l.prog w K mg base CX0 3 f16 _ ["left"] (spOf K (pf_m_law_kind)) := ok_m_law_kind F16 G15 (PySem.W.mg_of X G a15) k15 b15
  have G17 : FnOk l.prog w K mg base CX0 3 f17 _ ["left", "kind"] (spOf K (pf_m_law_colour)) := ok_m_law_colour F17 G15 (PySem.W.mg_of X G a15) k15 b15 (PySem.W.mg_none_of X G z_int) (PySem.W.mg_none_of X G z_range) (PySem.W.mg_none_of X G z_tuple)
  have G18 : FnOk l.prog w K mg base CX0 4 f18 _ ["left", "kind"] (spOf K (pf_m_law_palette)) := ok_m_law_palette F18 G17 (PySem.W.mg_of X G a17) k17 b17 G15 (PySem.W.mg_of X G a15) k15 b15 (PySem.W.mg_none_of X G z_len) (PySem.W.mg_none_of X G z_range)
  have G19 : FnOk l.prog w K mg base CX0 4 f19 _ ["left", "kind"] (spOf K (pf_m_law_picture)) := ok_m_law_picture F19 G17 (PySem.W.mg_of X G a17) k17 b17 G15 (PySem.W.mg_of X G a15) k15 b15 (PySem.W.mg_none_of X G z_int) (PySem.W.mg_none_of X G z_len) (PySem.W.mg_none_of X G z_range)
  have G20 : FnOk l.prog w K mg base CX0 3 f20 _ ["left"] (spOf K (pf_m_law_shares)) := ok_m_law_shares F20 G15 (PySem.W.mg_of X G a15) k15 b15 (PySem.W.mg_none_of X G z_int) (PySem.W.mg_none_of X G z_len) (PySem.W.mg_none_of X G z_range)
  have G21 : FnOk l.prog w K mg base CX0 1 f21 _ ["high", "wide", "way"] (spOf K (pf_m_law_turns)) := ok_m_law_turns F21 (PySem.W.mg_none_of X G z_int) (PySem.W.mg_none_of X G z_range)
  have G22 : FnOk l.prog w K mg base CX0 1 f22 _ ["rest", "shares", "spot", "high", "wide"] (spOf K (pf_m_law_pieces)) := ok_m_law_pieces F22 (PySem.W.mg_none_of X G z_range) (PySem.W.mg_none_of X G z_sum)
  have G23 : FnOk l.prog w K mg base CX0 2 f23 _ ["picture", "palette", "shares", "way", "numbers", "wanted", "place"] (spOf K (pf_m_law_place_right)) := ok_m_law_place_right F23 G22 (PySem.W.mg_of X G a22) k22 b22 G21 (PySem.W.mg_of X G a21) k21 b21 (PySem.W.mg_none_of X G z_len) (PySem.W.mg_none_of X G z_sum)
  have G24 : FnOk l.prog w K mg base CX0 5 f24 _ ["picture", "palette", "shares", "way", "numbers"] (spOf K (pf_m_law_walked)) := ok_m_law_walked F24 G23 (PySem.W.mg_of X G a23) k23 b23 G11 (PySem.W.mg_of X G a11) k11 b11 (PySem.W.mg_none_of X G z_len) (PySem.W.mg_none_of X G z_range) (PySem.W.mg_none_of X G z_tuple)
  have G25 : FnOk l.prog w K mg base CX0 1 f25 _ ["picture", "palette", "numbers", "lost"] (spOf K (pf_m_law_sums_right)) := ok_m_law_sums_right F25 (PySem.W.mg_none_of X G z_len) (PySem.W.mg_none_of X G z_range) (PySem.W.mg_none_of X G z_sum)
  exact ok_m_law F26 G16 (PySem.W.mg_of X G a16) k16 b16 G14 (PySem.W.mg_of X G a14) k14 b14 G18 (PySem.W.mg_of X G a18) k18 b18 G15 (PySem.W.mg_of X G a15) k15 b15 G19 (PySem.W.mg_of X G a19) k19 b19 G20 (PySem.W.mg_of X G a20) k20 b20 G25 (PySem.W.mg_of X G a25) k25 b25 G24 (PySem.W.mg_of X G a24) k24 b24 G12 (PySem.W.mg_of X G a12) k12 b12 (PySem.W.mg_none_of X G z_len) (PySem.W.mg_none_of X G z_min) (PySem.W.mg_none_of X G z_range)
end K83
open PySem PySem.W PyProof.Rows
set_option maxHeartbeats 0 in
theorem PySem.Challenge.cw_fewcolours_k83_whole_nothing_lost_on_the_holds : PySem.Challenge.rw_fewcolours_k83_whole_nothing_lost_on_the.Holds := by
  w_on; o_law; k_head; (case hw => w_witness2)
  k_fill
  refine L2.walk_of (l := PySem.Challenge.rw_fewcolours_k83_whole_nothing_lost_on_the) (n := 63) (k := 6) (x := "script") (CX := fun _ => L2.CX0) (sp := fun w => FC.spOf _ K83.pf_m_law) rfl (by decide) rfl ⟨rfl, by decide, by decide⟩ (fun w h Y => PySem.W.kIn_of Y) ?F (fun _ _ a ns hl _ hS => FC.law_start ⟨_, ⟨a, ns, true, K83.law_plain ns hl, rfl, rfl, rfl⟩, fun r m2 h => h.1⟩ hS) (fun _ _ _ _ _ h => h)
  case F =>
    intro w mg fa h KX G hmg
    refine' K83.all_mk KX G hmg ?aC_Handing ?pg_Handing ?hd_Handing ?po_Handing ?sa_Handing ?mk_Handing ?kc_Handing ?na_Handing_own_lost ?na_Handing_own_shares ?na_Handing_own_wanted ?na_Handing_own_way ?a1 ?l1 ?c1 ?k1 ?a2 ?l2 ?c2 ?k2 ?a3 ?l3 ?c3 ?k3 ?a4 ?i4 ?l4 ?c4 ?k4 ?a5 ?i5 ?l5 ?c5 ?k5 ?a6 ?i6 ?l6 ?c6 ?k6 ?a7 ?i7 ?l7 ?c7 ?k7 ?a8 ?i8 ?l8 ?c8 ?k8 ?a9 ?i9 ?l9 ?c9 ?k9 ?a10 ?i10 ?l10 ?c10 ?k10 ?a11 ?l11 ?c11 ?k11 ?a12 ?l12 ?c12 ?k12 ?a13 ?l13 ?c13 ?k13 ?a14 ?l14 ?c14 ?k14 ?a15 ?l15 ?c15 ?k15 ?a16 ?l16 ?c16 ?k16 ?a17 ?l17 ?c17 ?k17 ?a18 ?l18 ?c18 ?k18 ?a19 ?l19 ?c19 ?k19 ?a20 ?l20 ?c20 ?k20 ?a21 ?l21 ?c21 ?k21 ?a22 ?l22 ?c22 ?k22 ?a23 ?l23 ?c23 ?k23 ?a24 ?l24 ?c24 ?k24 ?a25 ?l25 ?c25 ?k25 ?a26 ?l26 ?c26 ?k26 ?aq_TURNED ?z_abs ?z_enumerate ?z_int ?z_len ?z_list ?z_min ?z_range ?z_sum ?z_tuple ?z_zip
    (case aC_Handing => k_is); (case pg_Handing => k_is); (case hd_Handing => k_is); (case po_Handing => k_is); (case sa_Handing => k_is); (case mk_Handing => k_is); (case kc_Handing => k_is); (case na_Handing_own_lost => k_is); (case na_Handing_own_shares => k_is); (case na_Handing_own_wanted => k_is); (case na_Handing_own_way => k_is); (case a1 => k_is); (case l1 => k_is); (case c1 => k_is); (case k1 => k_is); (case a2 => k_is); (case l2 => k_is); (case c2 => k_is); (case k2 => k_is); (case a3 => k_is); (case l3 => k_is); (case c3 => k_is); (case k3 => k_is); (case a4 => k_is); (case i4 => k_is); (case l4 => k_is); (case c4 => k_is); (case k4 => k_is); (case a5 => k_is); (case i5 => k_is); (case l5 => k_is); (case c5 => k_is); (case k5 => k_is); (case a6 => k_is); (case i6 => k_is); (case l6 => k_is); (case c6 => k_is); (case k6 => k_is); (case a7 => k_is); (case i7 => k_is); (case l7 => k_is); (case c7 => k_is); (case k7 => k_is); (case a8 => k_is); (case i8 => k_is); (case l8 => k_is); (case c8 => k_is); (case k8 => k_is); (case a9 => k_is); (case i9 => k_is); (case l9 => k_is); (case c9 => k_is); (case k9 => k_is); (case a10 => k_is); (case i10 => k_is); (case l10 => k_is); (case c10 => k_is); (case k10 => k_is); (case a11 => k_is); (case l11 => k_is); (case c11 => k_is); (case k11 => k_is); (case a12 => k_is); (case l12 => k_is); (case c12 => k_is); (case k12 => k_is); (case a13 => k_is); (case l13 => k_is); (case c13 => k_is); (case k13 => k_is); (case a14 => k_is); (case l14 => k_is); (case c14 => k_is); (case k14 => k_is); (case a15 => k_is); (case l15 => k_is); (case c15 => k_is); (case k15 => k_is); (case a16 => k_is); (case l16 => k_is); (case c16 => k_is); (case k16 => k_is); (case a17 => k_is); (case l17 => k_is); (case c17 => k_is); (case k17 => k_is); (case a18 => k_is); (case l18 => k_is); (case c18 => k_is); (case k18 => k_is); (case a19 => k_is); (case l19 => k_is); (case c19 => k_is); (case k19 => k_is); (case a20 => k_is); (case l20 => k_is); (case c20 => k_is); (case k20 => k_is); (case a21 => k_is); (case l21 => k_is); (case c21 => k_is); (case k21 => k_is); (case a22 => k_is); (case l22 => k_is); (case c22 => k_is); (case k22 => k_is); (case a23 => k_is); (case l23 => k_is); (case c23 => k_is); (case k23 => k_is); (case a24 => k_is); (case l24 => k_is); (case c24 => k_is); (case k24 => k_is); (case a25 => k_is); (case l25 => k_is); (case c25 => k_is); (case k25 => k_is); (case a26 => k_is); (case l26 => k_is); (case c26 => k_is); (case k26 => k_is); (case aq_TURNED => k_is); (case z_abs => k_is); (case z_enumerate => k_is); (case z_int => k_is); (case z_len => k_is); (case z_list => k_is); (case z_min => k_is); (case z_range => k_is); (case z_sum => k_is); (case z_tuple => k_is); (case z_zip => k_is)
