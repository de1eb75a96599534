import PyProof.Rows.All
import Wide.All
import OpenK.AllK
import Wide.FinOn
import HandS.ForMost
import HandS.Zip
import HandS.Walk
import HandS.Evl
import HandS.TupAny
import HandS.Deep
import HandS.Wide
import HandS.Comp
import KE.DatumOrd
import KE.SortData
import HandS.NoneIn
import HandS.DictTup
import HandS.Conv
import HandS.DictComp
import HandS.IsInst
import HandS.More
import HandS.WordsDict
import HandS.Steps
import HandS.Codes
import HandS.Text
import PyProof.StrBlock2
import HandS.RevRange
import HandS.Style
import KE.GoesMore
import HandS.TupLe
import PySem.Challenge.RW_fewcolours_k92_whole_prices_show_the_lea
set_option Elab.async false
set_option linter.all false
set_option maxRecDepth 100000
set_option maxHeartbeats 4000000
/-! FA: symbolic states over the hand layer: what the slots hold (SD), the cells that are owned (CD), a persistent heap behind them. -/
namespace FC
open PySem PySem.Spec PyProof.Rows L2 Evl

/-! ### data that stand in the heap -/
mutual
inductive Dq (B : Hp) : V → PyData → Prop
  | non : Dq B .non .none
  | bl (b : Bool) : Dq B (.bl b) (.bool b)
  | int (i : Int) : Dq B (.int i) (.int i)
  | str (x : Str) : Dq B (.str x) (.str x)
  | lst {a : Addr} {xs : List V} {ds : List PyData} : B a = some (.lst xs) → DqAll B xs ds → Dq B (.ref a) (.list ds)
  | tup {a : Addr} {xs : List V} {ds : List PyData} : B a = some (.tup xs) → DqAll B xs ds → Dq B (.ref a) (.tuple ds)
inductive DqAll (B : Hp) : List V → List PyData → Prop
  | nil : DqAll B [] []
  | cons {v : V} {vs : List V} {d : PyData} {ds : List PyData} : Dq B v d → DqAll B vs ds → DqAll B (v :: vs) (d :: ds)
end
mutual
theorem dp_mono {B B' : Hp} (e : Ex B B') : ∀ {v : V} {d : PyData}, Dq B v d → Dq B' v d
  | _, _, .non => .non
  | _, _, .bl b => .bl b
  | _, _, .int i => .int i
  | _, _, .str x => .str x
  | _, _, .lst h a => .lst (e _ _ h) (dpa_mono e a)
  | _, _, .tup h a => .tup (e _ _ h) (dpa_mono e a)
theorem dpa_mono {B B' : Hp} (e : Ex B B') : ∀ {vs : List V} {ds : List PyData}, DqAll B vs ds → DqAll B' vs ds
  | _, _, .nil => .nil
  | _, _, .cons h t => .cons (dp_mono e h) (dpa_mono e t)
end
mutual
theorem Dq.dp {K : PySem.W.Frag} {B : Hp} : ∀ {v : V} {d : PyData}, Dq B v d → Dp K B v d
  | _, _, .non => .non
  | _, _, .bl b => .bl b
  | _, _, .int i => .int i
  | _, _, .str x => .str x
  | _, _, .lst h a => .lst (SqL.of h) a.dp
  | _, _, .tup h a => .tup (SqT.of h) a.dp
theorem DqAll.dp {K : PySem.W.Frag} {B : Hp} : ∀ {vs : List V} {ds : List PyData}, DqAll B vs ds → DpAll K B vs ds
  | _, _, .nil => .nil
  | _, _, .cons h t => .cons h.dp t.dp
end

/-! ### symbolic values, cells, states -/
/-- what a slot, an item, a field holds: nothing known; data; the address of a cell -/
inductive SD where
  | un
  | da (d : PyData)
  | rf (l : Addr)
  | sl (l : Addr) (ns : List Int)
  | tp (es : List (PyData ⊕ Addr))
/-- what a cell holds -/
inductive CD where
  | ls (ds : List PyData)
  | lr (es : List SD)
  | dk (kvs : List (Key × PyData))
  | dt (kvs : List (List Key × PyData))
  | ins (C dx : Addr) (fs : List (Str × SD))
  | raw (o : HO)
  | lk (od : Obj) (ws : List (Key × V)) (kvs : List (Key × PyData))
abbrev M := List (Addr × CD)
abbrev keys (m : M) : List Addr := m.map (·.1)

section
variable (K : PySem.W.Frag) (B : Hp)
def TpOk (B : Hp) : List (PyData ⊕ Addr) → List V → Prop
  | [], [] => True
  | .inl d :: es, v :: vs => Dq B v d ∧ TpOk B es vs
  | .inr l :: es, v :: vs => v = .ref l ∧ TpOk B es vs
  | _, _ => False
def SdOk : SD → V → Prop
  | .un, _ => True
  | .da d, v => Dq B v d
  | .rf l, v => v = .ref l
  | .sl l ns, v => v = .ref l ∧ SqL K B l (ns.map V.int)
  | .tp es, v => ∃ p vs, v = .ref p ∧ B p = some (.tup vs) ∧ TpOk B es vs
def SdAll : List SD → List V → Prop
  | [], [] => True
  | a :: as, v :: vs => SdOk K B a v ∧ SdAll as vs
  | _, _ => False
def SlOk : SD → Option V → Prop
  | .un, _ => True
  | .da d, some v => Dq B v d
  | .rf l, some v => v = .ref l
  | .sl l ns, some v => v = .ref l ∧ SqL K B l (ns.map V.int)
  | .tp es, some v => ∃ p vs, v = .ref p ∧ B p = some (.tup vs) ∧ TpOk B es vs
  | _, none => False
def StOk : List SD → L2.St → Prop
  | [], [] => True
  | a :: as, v :: vs => SlOk K B a v ∧ StOk as vs
  | _, _ => False
def KvOk {κ : Type} : List (κ × PyData) → List (κ × V) → Prop
  | [], [] => True
  | a :: as, v :: vs => (a.1 = v.1 ∧ Dq B v.2 a.2) ∧ KvOk as vs
  | _, _ => False
def FsOk : List (Str × SD) → List (Str × V) → Prop
  | [], [] => True
  | a :: as, v :: vs => (a.1 = v.1 ∧ SdOk K B a.2 v.2) ∧ FsOk as vs
  | _, _ => False
def CdOk : CD → HO → Prop
  | .ls ds, .lst vs => DqAll B vs ds
  | .lr es, .lst vs => SdAll K B es vs
  | .dk kvs, .dK ws => KvOk B kvs ws
  | .dt kvs, .dT ws => KvOk B kvs ws
  | .ins C dx fs, .ins C' dx' ws => C = C' ∧ dx = dx' ∧ FsOk K B fs ws
  | .raw o, o' => o = o' ∧ ∀ xs, o ≠ .tup xs
  | .lk od ws kvs, .frz od' u => od = od' ∧ u = .dK ws ∧ KvOk B kvs ws
  | _, _ => False
end

section
variable {K : PySem.W.Frag} {B B' H H' : Hp}
theorem tp_mono (e : Ex B B') : ∀ {es : List (PyData ⊕ Addr)} {vs : List V}, TpOk B es vs → TpOk B' es vs
  | [], [], _ => True.intro
  | .inl _ :: _, _ :: _, h => ⟨dp_mono e h.1, tp_mono e h.2⟩
  | .inr _ :: _, _ :: _, h => ⟨h.1, tp_mono e h.2⟩
  | [], _ :: _, h => h.elim
  | .inl _ :: _, [], h => h.elim
  | .inr _ :: _, [], h => h.elim
theorem sd_mono (e : Ex B B') : ∀ {s : SD} {v : V}, SdOk K B s v → SdOk K B' s v
  | .un, _, h => h
  | .da _, _, h => dp_mono e h
  | .rf _, _, h => h
  | .sl _ _, _, h => ⟨h.1, ex_l e h.2⟩
  | .tp _, _, h => let ⟨p, vs, h1, h2, h3⟩ := h; ⟨p, vs, h1, e _ _ h2, tp_mono e h3⟩
theorem sda_mono (e : Ex B B') : ∀ {ss : List SD} {vs : List V}, SdAll K B ss vs → SdAll K B' ss vs
  | [], [], h => h
  | _ :: _, _ :: _, h => ⟨sd_mono e h.1, sda_mono e h.2⟩
  | [], _ :: _, h => h
  | _ :: _, [], h => h
theorem sl_mono (e : Ex B B') : ∀ {s : SD} {v : Option V}, SlOk K B s v → SlOk K B' s v
  | .un, _, h => by cases ‹Option V› <;> exact h
  | .da _, some _, h => dp_mono e h
  | .rf _, some _, h => h
  | .sl _ _, some _, h => ⟨h.1, ex_l e h.2⟩
  | .tp _, some _, h => let ⟨p, vs, h1, h2, h3⟩ := h; ⟨p, vs, h1, e _ _ h2, tp_mono e h3⟩
  | .tp _, none, h => h
  | .da _, none, h => h
  | .rf _, none, h => h
  | .sl _ _, none, h => h
theorem st_mono (e : Ex B B') : ∀ {ss : List SD} {σ : L2.St}, StOk K B ss σ → StOk K B' ss σ
  | [], [], h => h
  | _ :: _, _ :: _, h => ⟨sl_mono e h.1, st_mono e h.2⟩
  | [], _ :: _, h => h
  | _ :: _, [], h => h
theorem kv_mono {κ : Type} (e : Ex B B') : ∀ {ss : List (κ × PyData)} {vs : List (κ × V)}, KvOk B ss vs → KvOk B' ss vs
  | [], [], h => h
  | _ :: _, _ :: _, h => ⟨⟨h.1.1, dp_mono e h.1.2⟩, kv_mono e h.2⟩
  | [], _ :: _, h => h
  | _ :: _, [], h => h
theorem fs_mono (e : Ex B B') : ∀ {ss : List (Str × SD)} {vs : List (Str × V)}, FsOk K B ss vs → FsOk K B' ss vs
  | [], [], h => h
  | _ :: _, _ :: _, h => ⟨⟨h.1.1, sd_mono e h.1.2⟩, fs_mono e h.2⟩
  | [], _ :: _, h => h
  | _ :: _, [], h => h
theorem cd_mono (e : Ex B B') {c : CD} {o : HO} (h : CdOk K B c o) : CdOk K B' c o := by
  cases c <;> cases o <;> first | exact h | exact dpa_mono e h | exact sda_mono e h | exact kv_mono e h | exact ⟨h.1, h.2.1, fs_mono e h.2.2⟩ | exact ⟨h.1, h.2.1, kv_mono e h.2.2⟩

theorem cd_nt {c : CD} {o : HO} (h : CdOk K B c o) (xs : List V) : o ≠ .tup xs := fun e => by
  subst e
  cases c <;> first | exact h.elim | exact h.2 xs h.1
/-- slots -/
theorem sl_some : ∀ {s : SD} {o : Option V}, (s ≠ .un) → SlOk K B s o → ∃ v, o = some v ∧ SdOk K B s v
  | .un, _, h, _ => absurd rfl h
  | .da _, some v, _, h => ⟨v, rfl, h⟩
  | .rf _, some v, _, h => ⟨v, rfl, h⟩
  | .sl _ _, some v, _, h => ⟨v, rfl, h⟩
  | .tp _, some v, _, h => ⟨v, rfl, h⟩
  | .tp _, none, _, h => h.elim
  | .da _, none, _, h => h.elim
  | .rf _, none, _, h => h.elim
  | .sl _ _, none, _, h => h.elim
theorem sl_of : ∀ {s : SD} {v : V}, SdOk K B s v → SlOk K B s (some v)
  | .un, _, h => h
  | .da _, _, h => h
  | .rf _, _, h => h
  | .sl _ _, _, h => h
  | .tp _, _, h => h
theorem st_get : ∀ {ds : List SD} {σ : L2.St} {i : Nat} {s : SD}, StOk K B ds σ → ds[i]? = some s → ∃ o, σ[i]? = some o ∧ SlOk K B s o
  | [], _, _, _, _, h => by simp at h
  | _ :: _, [], _, _, h, _ => h.elim
  | a :: as, v :: vs, 0, s, h, e => by
    have e' : a = s := Option.some.inj e
    subst e'
    exact ⟨v, rfl, h.1⟩
  | _ :: as, _ :: vs, i + 1, s, h, e => st_get (i := i) h.2 e
theorem st_set : ∀ {ds : List SD} {σ : L2.St} (i : Nat) {s : SD} {o : Option V}, StOk K B ds σ → SlOk K B s o → StOk K B (ds.set i s) (σ.set i o)
  | [], [], _, _, _, h, _ => h
  | _ :: _, [], _, _, _, h, _ => h.elim
  | [], _ :: _, _, _, _, h, _ => h.elim
  | _ :: _, _ :: _, 0, _, _, h, q => ⟨q, h.2⟩
  | _ :: _, _ :: _, i + 1, _, _, h, q => ⟨h.1, st_set i h.2 q⟩
/-- less is known -/
inductive Wk : SD → SD → Prop
  | rfl {s} : Wk s s
  | un {s} : Wk s .un
theorem Wk.sl {s t : SD} {o : Option V} (w : Wk s t) (h : SlOk K B s o) : SlOk K B t o := by
  cases w with
  | rfl => exact h
  | un => cases o <;> exact True.intro
inductive Wks : List SD → List SD → Prop
  | nil : Wks [] []
  | cons {a b : SD} {as bs : List SD} : Wk a b → Wks as bs → Wks (a :: as) (b :: bs)
theorem Wks.st : ∀ {ds es : List SD} {σ : L2.St}, Wks ds es → StOk K B ds σ → StOk K B es σ
  | _, _, [], .nil, h => h
  | _, _, _ :: _, .nil, h => h.elim
  | _, _, [], .cons _ _, h => h.elim
  | _, _, _ :: _, .cons a t, h => ⟨a.sl h.1, t.st h.2⟩
theorem Wks.refl : ∀ (ds : List SD), Wks ds ds
  | [] => .nil
  | _ :: r => .cons .rfl (Wks.refl r)
end

/-- the cells m are owned in H, the rest of what is known stands in B -/
structure SOk (K : PySem.W.Frag) (B : Hp) (m : M) (H : Hp) : Prop where
  ext : Ex B H
  nd : (keys m).Nodup
  out : ∀ p ∈ m, B p.1 = none
  cel : ∀ p ∈ m, ∃ o, H p.1 = some o ∧ CdOk K B p.2 o
/-- from B, H with the cells k to B', H' with the cells k' -/
structure Tr (B H : Hp) (k : List Addr) (B' H' : Hp) (k' : List Addr) : Prop where
  ex : Ex B B'
  new : ∀ a, H a ≠ none → (∀ xs, H a ≠ some (.tup xs)) → B a = none → B' a = none
  tp : ∀ a, H a ≠ none → (∀ xs, H a ≠ some (.tup xs)) → ∀ xs, H' a ≠ some (.tup xs)
  keep : ∀ a o, a ∉ k → H a = some o → H' a = some o
  kys : ∀ a ∈ k', a ∈ k ∨ H a = none
  grow : ∀ a, H a ≠ none → H' a ≠ none

section
variable {K : PySem.W.Frag} {B B1 B2 B3 H H1 H2 H3 : Hp} {k k1 k2 k3 : List Addr} {m m1 m2 : M}
theorem Tr.refl (B H : Hp) (k : List Addr) : Tr B H k B H k := ⟨Ex.refl _, fun _ _ _ h => h, fun _ _ h => h, fun _ _ _ h => h, fun _ h => .inl h, fun _ h => h⟩
theorem Tr.trans (a : Tr B H k B1 H1 k1) (b : Tr B1 H1 k1 B2 H2 k2) : Tr B H k B2 H2 k2 where
  ex := a.ex.trans b.ex
  new := fun x h1 hn h2 => b.new x (a.grow x h1) (a.tp x h1 hn) (a.new x h1 hn h2)
  tp := fun x h1 hn => b.tp x (a.grow x h1) (a.tp x h1 hn)
  keep := fun x o hk e => b.keep x o (fun q => (a.kys x q).elim hk fun z => by rw [e] at z; cases z) (a.keep x o hk e)
  kys := fun x q => (b.kys x q).elim (fun z => a.kys x z) fun z => by
    by_cases h : H x = none
    · exact .inr h
    · exact absurd z (a.grow x h)
  grow := fun x h => b.grow x (a.grow x h)
theorem some_ne {α : Type} {o : Option α} {x : α} (h : o = some x) : o ≠ none := by rw [h]; exact fun z => nomatch z
theorem SOk.ne (s : SOk K B m H) {p : Addr × CD} (hp : p ∈ m) : H p.1 ≠ none := by
  obtain ⟨o, e, _⟩ := s.cel p hp
  exact some_ne e
/-- an extension by new things -/
theorem Tr.ext (s : SOk K B m H) (e : Ex H H2) : Tr B H (keys m) B H2 (keys m) := ⟨Ex.refl _, fun _ _ _ h => h, fun a h hn xs z => by
  cases q : H a with
  | none => exact h q
  | some o =>
    rw [e a o q] at z
    exact hn xs (by rw [q]; exact z), fun a o _ h => e a o h, fun _ h => .inl h, fun a h => by
  cases q : H a with
  | none => exact absurd q h
  | some o => exact some_ne (e a o q)⟩
theorem SOk.grow (s : SOk K B m H) (e : Ex H H2) : SOk K B m H2 := ⟨s.ext.trans e, s.nd, s.out, fun p hp => by
  obtain ⟨o, h1, h2⟩ := s.cel p hp
  exact ⟨o, e _ _ h1, h2⟩⟩
theorem fresh_b (s : SOk K B m H) {p : Addr} (h : H p = none) : B p = none := fresh_back s.ext h
theorem fresh_k (s : SOk K B m H) {p : Addr} (h : H p = none) : p ∉ keys m := fun q => by
  obtain ⟨c, hc, e⟩ := List.mem_map.mp q
  exact s.ne hc (by rw [e]; exact h)
/-- a new thing goes to the persistent heap -/
theorem Tr.data (s : SOk K B m H) {p : Addr} {o : HO} (h : H p = none) : Tr B H (keys m) (upd B p o) (upd H p o) (keys m) where
  ex := Ex.new (fresh_b s h)
  new := fun a h1 _ h2 => by
    rw [upd_ne (fun e => by subst e; exact h1 h)]
    exact h2
  tp := fun a h1 hn xs => by
    rw [upd_ne (fun e => by subst e; exact h1 h)]
    exact hn xs
  keep := fun a u _ e => by
    rw [upd_ne (ne_of_none e h)]
    exact e
  kys := fun _ z => .inl z
  grow := fun a h1 => by
    rw [upd_ne (fun e => by subst e; exact h1 h)]
    exact h1
theorem ex_upd (e : Ex B H) {p : Addr} {o : HO} : Ex (upd B p o) (upd H p o) := fun a u h => by
  by_cases q : a = p
  · subst q
    rw [upd_same] at h ⊢
    exact h
  · rw [upd_ne q] at h ⊢
    exact e a u h
theorem SOk.data (s : SOk K B m H) {p : Addr} {o : HO} (h : H p = none) : SOk K (upd B p o) m (upd H p o) := ⟨ex_upd s.ext, s.nd, fun q hq => by
    rw [upd_ne (fun e => s.ne hq (by rw [e]; exact h))]
    exact s.out q hq, fun q hq => by
    obtain ⟨u, h1, h2⟩ := s.cel q hq
    exact ⟨u, by rw [upd_ne (ne_of_none h1 h)]; exact h1, cd_mono (Ex.new (fresh_b s h)) h2⟩⟩
theorem keys_app (m : M) (p : Addr) (c : CD) : keys (m ++ [(p, c)]) = keys m ++ [p] := by
  show List.map _ _ = _
  rw [List.map_append]
  rfl
/-- a new thing becomes a cell -/
theorem Tr.cell (s : SOk K B m H) {p : Addr} {o : HO} {c : CD} (h : H p = none) : Tr B H (keys m) B (upd H p o) (keys (m ++ [(p, c)])) where
  ex := Ex.refl _
  new := fun _ _ _ h2 => h2
  tp := fun a h1 hn xs => by
    rw [upd_ne (fun e => by subst e; exact h1 h)]
    exact hn xs
  keep := fun a u _ e => by
    rw [upd_ne (ne_of_none e h)]
    exact e
  kys := fun a z => by
    rw [keys_app] at z
    rcases List.mem_append.mp z with z | z
    · exact .inl z
    · have e : a = p := by simpa using z
      exact .inr (by rw [e]; exact h)
  grow := fun a h1 => by
    rw [upd_ne (fun e => by subst e; exact h1 h)]
    exact h1
theorem SOk.cell (s : SOk K B m H) {p : Addr} {o : HO} {c : CD} (h : H p = none) (hc : CdOk K B c o) : SOk K B (m ++ [(p, c)]) (upd H p o) where
  ext := fun a u e => by
    rw [upd_ne (ne_of_none e (fresh_b s h))]
    exact s.ext a u e
  nd := by
    rw [keys_app]
    refine List.nodup_append.mpr ⟨s.nd, by simp, fun a ha b hb => ?_⟩
    have e : b = p := by simpa using hb
    subst e
    exact fun z => fresh_k s h (z ▸ ha)
  out := fun q hq => (List.mem_append.mp hq).elim (fun z => s.out q z) fun z => by
    have e : q = (p, c) := by simpa using z
    rw [e]
    exact fresh_b s h
  cel := fun q hq => (List.mem_append.mp hq).elim (fun z => by
      obtain ⟨u, h1, h2⟩ := s.cel q z
      exact ⟨u, by rw [upd_ne (ne_of_none h1 h)]; exact h1, h2⟩) fun z => by
    have e : q = (p, c) := by simpa using z
    rw [e]
    exact ⟨o, upd_same, hc⟩
/-- a cell is written -/
theorem set_same {α : Type} : ∀ {l : List α} {j : Nat} {x : α}, l[j]? = some x → l.set j x = l
  | [], _, _, h => by simp at h
  | a :: r, 0, x, h => by
    have e : a = x := Option.some.inj h
    rw [e]
    rfl
  | a :: r, j + 1, x, h => by
    show a :: r.set j x = a :: r
    rw [set_same (l := r) (j := j) h]
theorem keys_set {j : Nat} {l : Addr} {c c' : CD} (hm : m[j]? = some (l, c)) : keys (m.set j (l, c')) = keys m := by
  unfold keys
  rw [List.map_set]
  exact set_same (by rw [List.getElem?_map, hm]; rfl)
theorem mem_set_cases {α : Type} : ∀ {l : List α} {j : Nat} {x y : α}, x ∈ l.set j y → (∃ i, i ≠ j ∧ l[i]? = some x) ∨ (x = y)
  | [], _, _, _, h => by simp at h
  | a :: r, 0, x, y, h => by
    rcases List.mem_cons.mp h with e | h
    · exact .inr e
    · obtain ⟨i, hi⟩ := List.mem_iff_getElem?.mp h
      exact .inl ⟨i + 1, by omega, hi⟩
  | a :: r, j + 1, x, y, h => by
    rcases List.mem_cons.mp h with e | h
    · exact .inl ⟨0, by omega, by rw [e]; rfl⟩
    · rcases mem_set_cases (l := r) h with ⟨i, hi, e⟩ | e
      · exact .inl ⟨i + 1, by omega, e⟩
      · exact .inr e
theorem key_ne (nd : (keys m).Nodup) {i j : Nat} {p q : Addr × CD} (hi : m[i]? = some p) (hj : m[j]? = some q) (h : i ≠ j) : p.1 ≠ q.1 := fun e => by
  have h1 : (keys m)[i]? = some p.1 := by rw [List.getElem?_map, hi]; rfl
  have h2 : (keys m)[j]? = some p.1 := by rw [List.getElem?_map, hj, e]; rfl
  exact h (nd_ix nd h1 h2)
theorem SOk.put (s : SOk K B m H) {j : Nat} {l : Addr} {c c' : CD} {o : HO} (hm : m[j]? = some (l, c)) (hc : CdOk K B c' o) : SOk K B (m.set j (l, c')) (upd H l o) where
  ext := fun a u e => by
    have hl : B l = none := s.out (l, c) (List.mem_of_getElem? hm)
    rw [upd_ne (ne_of_none e hl)]
    exact s.ext a u e
  nd := by
    rw [keys_set hm]
    exact s.nd
  out := fun q hq => by
    rcases mem_set_cases hq with ⟨i, _, e⟩ | e
    · exact s.out q (List.mem_of_getElem? e)
    · rw [e]
      exact s.out (l, c) (List.mem_of_getElem? hm)
  cel := fun q hq => by
    rcases mem_set_cases hq with ⟨i, hi, e⟩ | e
    · obtain ⟨u, h1, h2⟩ := s.cel q (List.mem_of_getElem? e)
      exact ⟨u, by rw [upd_ne (key_ne s.nd e hm hi)]; exact h1, h2⟩
    · rw [e]
      exact ⟨o, upd_same, hc⟩
theorem Tr.put (s : SOk K B m H) {j : Nat} {l : Addr} {c c' : CD} {o : HO} (hm : m[j]? = some (l, c)) (hc : CdOk K B c' o) : Tr B H (keys m) B (upd H l o) (keys (m.set j (l, c'))) where
  ex := Ex.refl _
  new := fun _ _ _ h => h
  tp := fun a h1 hn xs => by
    by_cases e : a = l
    · rw [e, upd_same]
      exact fun z => cd_nt hc xs (Option.some.inj z)
    · rw [upd_ne e]
      exact hn xs
  keep := fun a u hk e => by
    have : a ≠ l := fun z => hk (z ▸ List.mem_map.mpr ⟨(l, c), List.mem_of_getElem? hm, rfl⟩)
    rw [upd_ne this]
    exact e
  kys := fun a z => by
    rw [keys_set hm] at z
    exact .inl z
  grow := fun a h1 => by
    by_cases e : a = l
    · rw [e, upd_same]
      exact fun z => nomatch z
    · rw [upd_ne e]
      exact h1
theorem SOk.at (s : SOk K B m H) {j : Nat} {l : Addr} {c : CD} (hm : m[j]? = some (l, c)) : ∃ o, H l = some o ∧ CdOk K B c o := s.cel (l, c) (List.mem_of_getElem? hm)
theorem SOk.ls (s : SOk K B m H) {j : Nat} {l : Addr} {ds : List PyData} (hm : m[j]? = some (l, .ls ds)) : ∃ vs, H l = some (.lst vs) ∧ DqAll B vs ds := by
  obtain ⟨o, h, c⟩ := s.at hm
  cases o <;> first | exact ⟨_, h, c⟩ | exact c.elim
/-- fewer cells -/
theorem SOk.sub (s : SOk K B m H) (h : m1.Sublist m) : SOk K B m1 H := ⟨s.ext, s.nd.sublist (h.map _), fun p hp => s.out p (h.subset hp), fun p hp => s.cel p (h.subset hp)⟩
theorem Tr.sub (t : Tr B H k B1 H1 k1) (h : ∀ a ∈ k2, a ∈ k1) : Tr B H k B1 H1 k2 := ⟨t.ex, t.new, t.tp, t.keep, fun a z => t.kys a (h a z), t.grow⟩
/-- a new cell is frozen -/
theorem SOk.frz (s : SOk K B m H) {j : Nat} {l : Addr} {c : CD} {o : HO} (hm : m[j]? = some (l, c)) (ho : H l = some o) : SOk K (upd B l o) (m.eraseIdx j) H where
  ext := fun a u e => by
    by_cases q : a = l
    · subst q
      rw [upd_same] at e
      rw [← e]
      exact ho
    · rw [upd_ne q] at e
      exact s.ext a u e
  nd := s.nd.sublist ((List.eraseIdx_sublist m j).map _)
  out := fun q hq => by
    obtain ⟨i, hi, e⟩ : ∃ i, i ≠ j ∧ m[i]? = some q := by
      obtain ⟨i, hi⟩ := List.mem_iff_getElem?.mp hq
      rw [List.getElem?_eraseIdx] at hi
      split at hi
      · exact ⟨i, by omega, hi⟩
      · exact ⟨i + 1, by omega, hi⟩
    rw [upd_ne (key_ne s.nd e hm hi)]
    exact s.out q (List.mem_of_getElem? e)
  cel := fun q hq => by
    obtain ⟨u, h1, h2⟩ := s.cel q ((List.eraseIdx_sublist m j).subset hq)
    exact ⟨u, h1, cd_mono (Ex.new (s.out (l, c) (List.mem_of_getElem? hm))) h2⟩
theorem Tr.frz (t : Tr B H k B1 H1 (keys m)) (s : SOk K B1 m H1) (hk : ∀ a ∈ k, H a ≠ none) {j : Nat} {l : Addr} {c : CD} {o : HO} (hm : m[j]? = some (l, c)) (hl : l ∉ k) : Tr B H k (upd B1 l o) H1 (keys (m.eraseIdx j)) where
  ex := t.ex.trans (Ex.new (s.out (l, c) (List.mem_of_getElem? hm)))
  tp := t.tp
  new := fun a h1 hn h2 => by
    have hH : H l = none := (t.kys l (List.mem_map.mpr ⟨(l, c), List.mem_of_getElem? hm, rfl⟩)).resolve_left hl
    rw [upd_ne (fun e => by subst e; exact h1 hH)]
    exact t.new a h1 hn h2
  keep := t.keep
  kys := fun a z => t.kys a (((List.eraseIdx_sublist m j).map _).subset z)
  grow := t.grow
/-- a heap that is longer: what is new there goes to the persistent one, tuples that stood too -/
noncomputable def fill (B H H' : Hp) : Hp := fun a => open Classical in if H a = none ∨ (∃ xs, H a = some (.tup xs)) then H' a else B a
theorem fill_new {a : Addr} (h : H a = none) : fill B H H1 a = H1 a := by
  unfold fill
  rw [if_pos (Or.inl h)]
theorem fill_tup {a : Addr} {xs : List V} (h : H a = some (.tup xs)) : fill B H H1 a = H1 a := by
  unfold fill
  rw [if_pos (Or.inr ⟨xs, h⟩)]
theorem fill_old (s : Ex B H) (e : Ex H H1) : Ex B (fill B H H1) := fun a o h => by
  unfold fill
  split
  · exact e a o (s a o h)
  · exact h
theorem Tr.fill (s : SOk K B m H) (e : Ex H H1) : Tr B H (keys m) (fill B H H1) H1 (keys m) ∧ SOk K (FC.fill B H H1) m H1 := by
  have old := fill_old s.ext e
  refine ⟨⟨old, fun a h1 hn h2 => ?_, fun a h1 hn xs z => ?_, fun a o _ h => e a o h, fun _ h => .inl h, fun a h => ?_⟩, ⟨fun a o h => ?_, s.nd, fun p hp => ?_, fun p hp => ?_⟩⟩
  · unfold FC.fill
    rw [if_neg (fun z => z.elim h1 fun ⟨xs, q⟩ => hn xs q)]
    exact h2
  · cases q : H a with
    | none => exact h1 q
    | some o =>
      rw [e a o q] at z
      exact hn xs (by rw [q]; exact z)
  · cases q : H a with
    | none => exact absurd q h
    | some o => exact some_ne (e a o q)
  · unfold FC.fill at h
    split at h
    · exact h
    · exact e a o (s.ext a o h)
  · obtain ⟨o, h1, h2⟩ := s.cel p hp
    unfold FC.fill
    rw [if_neg (fun z => z.elim (fun q => by rw [h1] at q; cases q) fun ⟨xs, q⟩ => cd_nt h2 xs (Option.some.inj (h1.symm.trans q)))]
    exact s.out p hp
  · obtain ⟨o, h1, h2⟩ := s.cel p hp
    exact ⟨o, e _ _ h1, cd_mono old h2⟩
end
end FC
set_option maxHeartbeats 4000000
/-! FB: what expressions give in a symbolic state. -/
namespace FC
open PySem PySem.Spec PyProof.Rows L2 Evl

/-! ### judgements -/
def EvX (K : PySem.W.Frag) (te : TE) (ds : List SD) (m : M) (R : SD → M → Prop) : Prop :=
  ∀ B H σ, SOk K B m H → StOk K B ds σ → ∀ Q : VK, (∀ v B2 H2 r m2, R r m2 → Tr B H (keys m) B2 H2 (keys m2) → SOk K B2 m2 H2 → SdOk K B2 r v → Q v H2) → te σ H Q
def Ev (K : PySem.W.Frag) (te : TE) (ds : List SD) (m : M) (r : SD) (m' : M) : Prop :=
  ∀ B H σ, SOk K B m H → StOk K B ds σ → ∀ Q : VK, (∀ v B2 H2, Tr B H (keys m) B2 H2 (keys m') → SOk K B2 m' H2 → SdOk K B2 r v → Q v H2) → te σ H Q
def EvN (K : PySem.W.Frag) (te : TE) (ds : List SD) (m : M) (c : CD) (m' : M) : Prop :=
  ∀ B H σ, SOk K B m H → StOk K B ds σ → ∀ Q : VK, (∀ p B2 H2, Tr B H (keys m) B2 H2 (keys (m' ++ [(p, c)])) → SOk K B2 (m' ++ [(p, c)]) H2 → Q (.ref p) H2) → te σ H Q
def EvT (K : PySem.W.Frag) (tt : TT) (ds : List SD) (m : M) (b : Bool) (m' : M) : Prop :=
  ∀ B H σ, SOk K B m H → StOk K B ds σ → ∀ Q : Bool → Hp → Prop, (∀ B2 H2, Tr B H (keys m) B2 H2 (keys m') → SOk K B2 m' H2 → Q b H2) → tt σ H Q
def EvA (K : PySem.W.Frag) (ta : TA) (ds : List SD) (m : M) (rs : List SD) (m' : M) : Prop :=
  ∀ B H σ, SOk K B m H → StOk K B ds σ → ∀ Q : List V → Hp → Prop, (∀ vs B2 H2, Tr B H (keys m) B2 H2 (keys m') → SOk K B2 m' H2 → SdAll K B2 rs vs → Q vs H2) → ta σ H Q
def EvO (K : PySem.W.Frag) (to : TO) (ds : List SD) (m : M) (o : Option Int) (m' : M) : Prop :=
  ∀ B H σ, SOk K B m H → StOk K B ds σ → ∀ Q : Option Int → Hp → Prop, (∀ B2 H2, Tr B H (keys m) B2 H2 (keys m') → SOk K B2 m' H2 → Q o H2) → to σ H Q
/-- operations by values -/
def Rr (K : PySem.W.Frag) (r : R2) (a b : SD) (m : M) (c : SD) (m' : M) : Prop :=
  ∀ B H x y, SOk K B m H → SdOk K B a x → SdOk K B b y → ∀ Q : VK, (∀ v B2 H2, Tr B H (keys m) B2 H2 (keys m') → SOk K B2 m' H2 → SdOk K B2 c v → Q v H2) → r x y H Q
def Ru (K : PySem.W.Frag) (r : V → Hp → VK → Prop) (a : SD) (m : M) (c : SD) (m' : M) : Prop :=
  ∀ B H x, SOk K B m H → SdOk K B a x → ∀ Q : VK, (∀ v B2 H2, Tr B H (keys m) B2 H2 (keys m') → SOk K B2 m' H2 → SdOk K B2 c v → Q v H2) → r x H Q
def Rc (K : PySem.W.Frag) (r : List V → Hp → VK → Prop) (as : List SD) (m : M) (c : SD) (m' : M) : Prop :=
  ∀ B H xs, SOk K B m H → SdAll K B as xs → ∀ Q : VK, (∀ v B2 H2, Tr B H (keys m) B2 H2 (keys m') → SOk K B2 m' H2 → SdOk K B2 c v → Q v H2) → r xs H Q
def RcN (K : PySem.W.Frag) (r : List V → Hp → VK → Prop) (as : List SD) (m : M) (c : CD) (m' : M) : Prop :=
  ∀ B H xs, SOk K B m H → SdAll K B as xs → ∀ Q : VK, (∀ p B2 H2, Tr B H (keys m) B2 H2 (keys (m' ++ [(p, c)])) → SOk K B2 (m' ++ [(p, c)]) H2 → Q (.ref p) H2) → r xs H Q
/-- a method of a built-in's, by values -/
def Rm (K : PySem.W.Frag) (r : V → List V → Hp → VK → Prop) (a : SD) (as : List SD) (m : M) (c : SD) (m' : M) : Prop :=
  ∀ B H x xs, SOk K B m H → SdOk K B a x → SdAll K B as xs → ∀ Q : VK, (∀ v B2 H2, Tr B H (keys m) B2 H2 (keys m') → SOk K B2 m' H2 → SdOk K B2 c v → Q v H2) → r x xs H Q

section
variable {K : PySem.W.Frag} {B B' H H' : Hp} {ds : List SD} {m m1 m2 m3 m4 m' : M} {ta tb tc te : TE} {t u : TT} {a b c r s : SD} {d e : PyData} {rs as : List SD}
theorem Ev.x (h : Ev K te ds m r m') : EvX K te ds m (fun r2 m2 => r2 = r ∧ m2 = m') := fun B H σ s st Q q => h B H σ s st Q fun v B2 H2 t s2 d => q v B2 H2 r m' ⟨rfl, rfl⟩ t s2 d
theorem EvN.x {c : CD} (h : EvN K te ds m c m') : EvX K te ds m (fun r2 m2 => ∃ p, r2 = .rf p ∧ m2 = m' ++ [(p, c)]) := fun B H σ s st Q q => h B H σ s st Q fun p B2 H2 t s2 => q _ B2 H2 (.rf p) _ ⟨p, rfl, rfl⟩ t s2 rfl

/-! ### the frame -/
theorem key_app (m f : M) : keys (m ++ f) = keys m ++ keys f := List.map_append
theorem fr_ok {f : M} {B2 H2 : Hp} (s : SOk K B (m ++ f) H) (t : Tr B H (keys m) B2 H2 (keys m')) (s2 : SOk K B2 m' H2) : Tr B H (keys (m ++ f)) B2 H2 (keys (m' ++ f)) ∧ SOk K B2 (m' ++ f) H2 := by
  have nd := s.nd
  rw [key_app] at nd
  have dj := (List.nodup_append.mp nd).2.2
  have hf : ∀ p ∈ f, ∃ o, H2 p.1 = some o ∧ CdOk K B2 p.2 o := fun p hp => by
    obtain ⟨o, h1, h2⟩ := s.cel p (List.mem_append_right _ hp)
    exact ⟨o, t.keep _ _ (fun z => dj _ z _ (List.mem_map.mpr ⟨p, hp, rfl⟩) rfl) h1, cd_mono t.ex h2⟩
  refine ⟨⟨t.ex, t.new, t.tp, fun x o hk e => t.keep x o (fun z => hk (by rw [key_app]; exact List.mem_append_left _ z)) e, fun x z => ?_, t.grow⟩, ⟨s2.ext, ?_, fun p hp => ?_, fun p hp => ?_⟩⟩
  · rw [key_app] at z ⊢
    rcases List.mem_append.mp z with z | z
    · exact (t.kys x z).imp (fun q => List.mem_append_left _ q) id
    · exact .inl (List.mem_append_right _ z)
  · rw [key_app]
    refine List.nodup_append.mpr ⟨s2.nd, (List.nodup_append.mp nd).2.1, fun x hx y hy e => ?_⟩
    subst e
    rcases t.kys x hx with q | q
    · exact dj _ q _ hy rfl
    · obtain ⟨p, hp, e⟩ := List.mem_map.mp hy
      exact s.ne (List.mem_append_right _ hp) (by rw [e]; exact q)
  · rcases List.mem_append.mp hp with z | z
    · exact s2.out p z
    · obtain ⟨o, h1, h2⟩ := s.cel p (List.mem_append_right _ z)
      exact t.new _ (some_ne h1) (fun xs q => cd_nt h2 xs (Option.some.inj (h1.symm.trans q))) (s.out p (List.mem_append_right _ z))
  · rcases List.mem_append.mp hp with z | z
    · exact s2.cel p z
    · exact hf p z
theorem Ev.frame (f : M) (h : Ev K te ds m r m') : Ev K te ds (m ++ f) r (m' ++ f) := fun B H σ s st Q q => h B H σ (s.sub (List.sublist_append_left m f)) st Q fun v B2 H2 t s2 d => by
  obtain ⟨t', s'⟩ := fr_ok s t s2
  exact q v B2 H2 t' s' d
theorem EvT.frame {b : Bool} (f : M) (h : EvT K t ds m b m') : EvT K t ds (m ++ f) b (m' ++ f) := fun B H σ s st Q q => h B H σ (s.sub (List.sublist_append_left m f)) st Q fun B2 H2 t s2 => by
  obtain ⟨t', s'⟩ := fr_ok s t s2
  exact q B2 H2 t' s'
/-- an expression that needs no cell and changes none -/
theorem Ev.pure (m : M) (h : Ev K te ds [] r []) : Ev K te ds m r m := Ev.frame m h

/-! ### names, constants -/
theorem ev_var {i : Nat} (h : ds[i]? = some (.da d)) : Ev K (tVar i) ds m (.da d) m := fun B H σ s st Q q => by
  obtain ⟨o, e, w⟩ := st_get st h
  obtain ⟨v, rfl, w⟩ := sl_some (s := .da d) (fun z => nomatch z) w
  exact ⟨v, e, q v B H (Tr.refl _ _ _) s w⟩
theorem ev_rf {i : Nat} {l : Addr} (h : ds[i]? = some (.rf l)) : Ev K (tVar i) ds m (.rf l) m := fun B H σ s st Q q => by
  obtain ⟨o, e, w⟩ := st_get st h
  obtain ⟨v, rfl, w⟩ := sl_some (s := .rf l) (fun z => nomatch z) w
  exact ⟨v, e, q v B H (Tr.refl _ _ _) s w⟩
theorem ev_sc {i : Nat} {l : Addr} {ns : List Int} (h : ds[i]? = some (.sl l ns)) : Ev K (tVar i) ds m (.sl l ns) m := fun B H σ s st Q q => by
  obtain ⟨o, e, w⟩ := st_get st h
  obtain ⟨v, rfl, w⟩ := sl_some (s := .sl l ns) (fun z => nomatch z) w
  exact ⟨v, e, q v B H (Tr.refl _ _ _) s w⟩
theorem ev_int {i : Int} : Ev K (tC (.int i)) ds m (.da (.int i)) m := fun B H σ s st Q q => q _ B H (Tr.refl _ _ _) s (.int i)
theorem ev_bl {i : Bool} : Ev K (tC (.bl i)) ds m (.da (.bool i)) m := fun B H σ s st Q q => q _ B H (Tr.refl _ _ _) s (.bl i)
theorem ev_str {i : Str} : Ev K (tC (.str i)) ds m (.da (.str i)) m := fun B H σ s st Q q => q _ B H (Tr.refl _ _ _) s (.str i)
theorem ev_non : Ev K (tC .non) ds m (.da .none) m := fun B H σ s st Q q => q _ B H (Tr.refl _ _ _) s .non

/-! ### operators, tests -/
theorem ev_op {ro : R2} (ha : Ev K ta ds m a m1) (hb : Ev K tb ds m1 b m2) (hr : Rr K ro a b m2 c m3) : Ev K (tOp ro ta tb) ds m c m3 := fun B H σ s st Q q =>
  ha B H σ s st _ fun x B1 H1 t1 s1 d1 => hb B1 H1 σ s1 (st_mono t1.ex st) _ fun y B2 H2 t2 s2 d2 => hr B2 H2 x y s2 (sd_mono t2.ex d1) d2 Q fun v B3 H3 t3 s3 d3 => q v B3 H3 ((t1.trans t2).trans t3) s3 d3
theorem ev_un {ro : V → Hp → VK → Prop} (ha : Ev K ta ds m a m1) (hr : Ru K ro a m1 c m2) : Ev K (tUn ro ta) ds m c m2 := fun B H σ s st Q q =>
  ha B H σ s st _ fun x B1 H1 t1 s1 d1 => hr B1 H1 x s1 d1 Q fun v B3 H3 t3 s3 d3 => q v B3 H3 (t1.trans t3) s3 d3
theorem ev_chain {r1 r2 : R2} {k k2 : Bool} (ha : Ev K ta ds m a m1) (hb : Ev K tb ds m1 b m2) (hr : Rr K r1 a b m2 (.da (.bool k)) m3)
    (hc : k = true → ∃ m4, Ev K tc ds m3 c m4 ∧ Rr K r2 b c m4 (.da (.bool k2)) m') (hf : k = false → k2 = false ∧ m' = m3) : Ev K (tChain r1 r2 ta tb tc) ds m (.da (.bool k2)) m' := fun B H σ s st Q q =>
  ha B H σ s st _ fun x B1 H1 t1 s1 d1 => hb B1 H1 σ s1 (st_mono t1.ex st) _ fun y B2 H2 t2 s2 d2 => hr B2 H2 x y s2 (sd_mono t2.ex d1) d2 _ fun v B3 H3 t3 s3 d3 => by
    cases d3 with
    | bl k =>
      refine ⟨k, rfl, ?_⟩
      cases k with
      | true =>
        obtain ⟨m4, h1, h2⟩ := hc rfl
        exact iteT (h1 B3 H3 σ s3 (st_mono (t1.ex.trans (t2.ex.trans t3.ex)) st) _ fun z B4 H4 t4 s4 d4 => h2 B4 H4 y z s4 (sd_mono (t3.ex.trans t4.ex) d2) d4 Q fun v5 B5 H5 t5 s5 d5 => q v5 B5 H5 ((((t1.trans t2).trans t3).trans t4).trans t5) s5 d5)
      | false =>
        obtain ⟨e1, e2⟩ := hf rfl
        subst e1 e2
        exact iteF (q _ B3 H3 ((t1.trans t2).trans t3) s3 (.bl _))
theorem et_val {b : Bool} (h : Ev K te ds m (.da (.bool b)) m') : EvT K (tB te) ds m b m' := fun B H σ s st Q q => h B H σ s st _ fun v B2 H2 t s2 d => by
  cases d
  exact ⟨b, rfl, q B2 H2 t s2⟩
theorem et_test {b : Bool} (h : Ev K te ds m (.da (.bool b)) m') : EvT K (tTest te) ds m b m' := fun B H σ s st Q q => h B H σ s st _ fun v B2 H2 t s2 d => by
  cases d
  exact ⟨b, rfl, q B2 H2 t s2⟩
theorem et_not {b : Bool} (h : EvT K t ds m b m') : EvT K (tNot t) ds m (!b) m' := fun B H σ s st Q q => h B H σ s st _ q
theorem et_and {k k2 : Bool} (h : EvT K t ds m k m1) (hc : k = true → EvT K u ds m1 k2 m') (hf : k = false → k2 = false ∧ m' = m1) : EvT K (tAnd t u) ds m k2 m' := fun B H σ s st Q q => h B H σ s st _ fun B1 H1 t1 s1 => by
  cases k with
  | true => exact iteT (hc rfl B1 H1 σ s1 (st_mono t1.ex st) Q fun B2 H2 t2 s2 => q B2 H2 (t1.trans t2) s2)
  | false =>
    obtain ⟨e1, e2⟩ := hf rfl
    subst e1 e2
    exact iteF (q B1 H1 t1 s1)
theorem et_or {k k2 : Bool} (h : EvT K t ds m k m1) (hc : k = false → EvT K u ds m1 k2 m') (hf : k = true → k2 = true ∧ m' = m1) : EvT K (tOr t u) ds m k2 m' := fun B H σ s st Q q => h B H σ s st _ fun B1 H1 t1 s1 => by
  cases k with
  | false => exact iteF (hc rfl B1 H1 σ s1 (st_mono t1.ex st) Q fun B2 H2 t2 s2 => q B2 H2 (t1.trans t2) s2)
  | true =>
    obtain ⟨e1, e2⟩ := hf rfl
    subst e1 e2
    exact iteT (q B1 H1 t1 s1)
theorem ev_andV {k k2 : Bool} (h : Ev K ta ds m (.da (.bool k)) m1) (hc : k = true → Ev K tb ds m1 (.da (.bool k2)) m') (hf : k = false → k2 = false ∧ m' = m1) : Ev K (tAndV ta tb) ds m (.da (.bool k2)) m' := fun B H σ s st Q q => h B H σ s st _ fun v B1 H1 t1 s1 d1 => by
  cases d1
  refine ⟨k, rfl, ?_⟩
  cases k with
  | true => exact iteT (hc rfl B1 H1 σ s1 (st_mono t1.ex st) Q fun v B2 H2 t2 s2 d2 => q v B2 H2 (t1.trans t2) s2 d2)
  | false =>
    obtain ⟨e1, e2⟩ := hf rfl
    subst e1 e2
    exact iteF (q _ B1 H1 t1 s1 (.bl _))
theorem ev_orV {k k2 : Bool} (h : Ev K ta ds m (.da (.bool k)) m1) (hc : k = false → Ev K tb ds m1 (.da (.bool k2)) m') (hf : k = true → k2 = true ∧ m' = m1) : Ev K (tOrV ta tb) ds m (.da (.bool k2)) m' := fun B H σ s st Q q => h B H σ s st _ fun v B1 H1 t1 s1 d1 => by
  cases d1
  refine ⟨k, rfl, ?_⟩
  cases k with
  | false => exact iteF (hc rfl B1 H1 σ s1 (st_mono t1.ex st) Q fun v B2 H2 t2 s2 d2 => q v B2 H2 (t1.trans t2) s2 d2)
  | true =>
    obtain ⟨e1, e2⟩ := hf rfl
    subst e1 e2
    exact iteT (q _ B1 H1 t1 s1 (.bl _))
theorem ev_notV {k : Bool} (h : Ev K ta ds m (.da (.bool k)) m1) : Ev K (tNotV ta) ds m (.da (.bool (!k))) m1 := fun B H σ s st Q q => h B H σ s st _ fun v B1 H1 t1 s1 d1 => by
  cases d1
  exact ⟨k, rfl, q _ B1 H1 t1 s1 (.bl _)⟩
theorem ev_if {k : Bool} (h : EvT K t ds m k m1) (h1 : k = true → Ev K ta ds m1 r m') (h2 : k = false → Ev K tb ds m1 r m') : Ev K (tIf t ta tb) ds m r m' := fun B H σ s st Q q => h B H σ s st _ fun B1 H1 t1 s1 => by
  cases k with
  | true => exact iteT (h1 rfl B1 H1 σ s1 (st_mono t1.ex st) Q fun v B2 H2 t2 s2 d2 => q v B2 H2 (t1.trans t2) s2 d2)
  | false => exact iteF (h2 rfl B1 H1 σ s1 (st_mono t1.ex st) Q fun v B2 H2 t2 s2 d2 => q v B2 H2 (t1.trans t2) s2 d2)

/-! ### arguments, displays, calls of built-ins -/
theorem ea_nil : EvA K tNil ds m [] m := fun B H σ s st Q q => q [] B H (Tr.refl _ _ _) s True.intro
theorem ea_cons {tr : TA} (h : Ev K ta ds m r m1) (hr : EvA K tr ds m1 rs m') : EvA K (tCons ta tr) ds m (r :: rs) m' := fun B H σ s st Q q =>
  h B H σ s st _ fun v B1 H1 t1 s1 d1 => hr B1 H1 σ s1 (st_mono t1.ex st) _ fun vs B2 H2 t2 s2 d2 => q (v :: vs) B2 H2 (t1.trans t2) s2 ⟨sd_mono t2.ex d1, d2⟩
theorem sda_dpa : ∀ {dl : List PyData} {vs : List V}, SdAll K B (dl.map SD.da) vs → DqAll B vs dl
  | [], [], _ => .nil
  | _ :: _, _ :: _, h => .cons h.1 (sda_dpa h.2)
  | [], _ :: _, h => h.elim
  | _ :: _, [], h => h.elim
theorem dpa_len : ∀ {dl : List PyData} {vs : List V}, DqAll B vs dl → vs.length = dl.length
  | _, _, .nil => rfl
  | _, _, .cons _ t => congrArg (· + 1) (dpa_len t)
theorem sda_len : ∀ {as : List SD} {vs : List V}, SdAll K B as vs → vs.length = as.length
  | [], [], _ => rfl
  | _ :: _, _ :: _, h => congrArg (· + 1) (sda_len h.2)
  | [], _ :: _, h => h.elim
  | _ :: _, [], h => h.elim
theorem ev_tup {t : TA} {dl : List PyData} (h : EvA K t ds m (dl.map SD.da) m') (hz : dl.length ≤ 1000) : Ev K (tTup t) ds m (.da (.tuple dl)) m' := fun B H σ s st Q q => h B H σ s st _ fun vs B1 H1 t1 s1 d1 => by
  have da := sda_dpa d1
  have hl := dpa_len da
  exact ⟨Nat.le_of_lt (small1000 (by omega)), fun p hp => q _ _ _ (t1.trans (Tr.data s1 hp)) (s1.data hp) (.tup upd_same (dpa_mono (Ex.new (fresh_b s1 hp)) da))⟩
theorem ev_lst {t : TA} {dl : List PyData} (h : EvA K t ds m (dl.map SD.da) m') (hz : dl.length ≤ 1000) : Ev K (tLst t) ds m (.da (.list dl)) m' := fun B H σ s st Q q => h B H σ s st _ fun vs B1 H1 t1 s1 d1 => by
  have da := sda_dpa d1
  have hl := dpa_len da
  exact ⟨Nat.le_of_lt (small1000 (by omega)), fun p hp => q _ _ _ (t1.trans (Tr.data s1 hp)) (s1.data hp) (.lst upd_same (dpa_mono (Ex.new (fresh_b s1 hp)) da))⟩
theorem en_lst {t : TA} {dl : List PyData} (h : EvA K t ds m (dl.map SD.da) m') (hz : dl.length ≤ 1000) : EvN K (tLst t) ds m (.ls dl) m' := fun B H σ s st Q q => h B H σ s st _ fun vs B1 H1 t1 s1 d1 => by
  have da := sda_dpa d1
  have hl := dpa_len da
  exact ⟨Nat.le_of_lt (small1000 (by omega)), fun p hp => q p _ _ (t1.trans (Tr.cell s1 hp)) (s1.cell hp da)⟩
theorem en_dk : EvN K tDNewK ds m (.dk []) m := fun B H σ s st Q q p hp => q p _ _ (Tr.cell s hp) (s.cell hp True.intro)
theorem en_dt : EvN K tDNewT ds m (.dt []) m := fun B H σ s st Q q p hp => q p _ _ (Tr.cell s hp) (s.cell hp True.intro)
theorem ev_cb {rc : List V → Hp → VK → Prop} {t : TA} (h : EvA K t ds m rs m1) (hr : Rc K rc rs m1 c m') : Ev K (tCB rc t) ds m c m' := fun B H σ s st Q q =>
  h B H σ s st _ fun vs B1 H1 t1 s1 d1 => hr B1 H1 vs s1 d1 Q fun v B2 H2 t2 s2 d2 => q v B2 H2 (t1.trans t2) s2 d2
theorem en_cb {rc : List V → Hp → VK → Prop} {t : TA} {c : CD} (h : EvA K t ds m rs m1) (hr : RcN K rc rs m1 c m') : EvN K (tCB rc t) ds m c m' := fun B H σ s st Q q =>
  h B H σ s st _ fun vs B1 H1 t1 s1 d1 => hr B1 H1 vs s1 d1 Q fun v B2 H2 t2 s2 => q v B2 H2 (t1.trans t2) s2
theorem tyv_of {B H : Hp} {l : Addr} {xs : List V} (h : H l = some (.lst xs)) : tyV K "list" (.ref l) H := Or.inl ⟨rfl, _, SqL.of h⟩
/-- a method of a list, the receiver a cell -/
theorem ev_bm {rm : V → List V → Hp → VK → Prop} {to : TE} {t : TA} {l : Addr} {j : Nat} {dl : List PyData} (ho : Ev K to ds m (.rf l) m1) (hj : m1[j]? = some (l, .ls dl)) (h : EvA K t ds m1 rs m2) (hr : Rm K rm (.rf l) rs m2 c m') : Ev K (tBM K "list" rm to t) ds m c m' := fun B H σ s st Q q =>
  ho B H σ s st _ fun x B1 H1 t1 s1 d1 => by
    have e : x = .ref l := d1
    subst e
    obtain ⟨vs, h1, _⟩ := s1.ls hj
    exact ⟨tyv_of (B := B) h1, h B1 H1 σ s1 (st_mono t1.ex st) _ fun xs B2 H2 t2 s2 d2 => hr B2 H2 _ xs s2 rfl d2 Q fun v B3 H3 t3 s3 d3 => q v B3 H3 ((t1.trans t2).trans t3) s3 d3⟩
theorem ev_bm0 {rm : V → List V → Hp → VK → Prop} {to : TE} {l : Addr} {j : Nat} {dl : List PyData} (ho : Ev K to ds m (.rf l) m1) (hj : m1[j]? = some (l, .ls dl)) (hr : Rm K rm (.rf l) [] m1 c m') : Ev K (tBM0 K "list" rm to) ds m c m' := fun B H σ s st Q q =>
  ho B H σ s st _ fun x B1 H1 t1 s1 d1 => by
    have e : x = .ref l := d1
    subst e
    obtain ⟨vs, h1, _⟩ := s1.ls hj
    exact ⟨tyv_of (B := B) h1, hr B1 H1 _ [] s1 rfl True.intro Q fun v B3 H3 t3 s3 d3 => q v B3 H3 (t1.trans t3) s3 d3⟩
/-- slices -/
theorem eo_none : EvO K tNoPart ds m none m := fun B H σ s st Q q => q B H (Tr.refl _ _ _) s
theorem eo_some {i : Int} (h : Ev K te ds m (.da (.int i)) m') : EvO K (tPart te) ds m (some i) m' := fun B H σ s st Q q => h B H σ s st _ fun v B2 H2 t s2 d => by
  cases d
  exact ⟨i, rfl, q B2 H2 t s2⟩
def Rs (K : PySem.W.Frag) (r : V → Option Int → Option Int → Hp → VK → Prop) (a : SD) (lo hi : Option Int) (m : M) (c : SD) (m' : M) : Prop :=
  ∀ B H x, SOk K B m H → SdOk K B a x → ∀ Q : VK, (∀ v B2 H2, Tr B H (keys m) B2 H2 (keys m') → SOk K B2 m' H2 → SdOk K B2 c v → Q v H2) → r x lo hi H Q
theorem ev_sl {rs : V → Option Int → Option Int → Hp → VK → Prop} {tl th : TO} {lo hi : Option Int} (ha : Ev K ta ds m a m1) (hl : EvO K tl ds m1 lo m2) (hh : EvO K th ds m2 hi m3) (hr : Rs K rs a lo hi m3 c m') : Ev K (tSl rs ta tl th) ds m c m' := fun B H σ s st Q q =>
  ha B H σ s st _ fun x B1 H1 t1 s1 d1 => hl B1 H1 σ s1 (st_mono t1.ex st) _ fun B2 H2 t2 s2 => hh B2 H2 σ s2 (st_mono (t1.ex.trans t2.ex) st) _ fun B3 H3 t3 s3 => hr B3 H3 x s3 (sd_mono (t2.ex.trans t3.ex) d1) Q fun v B4 H4 t4 s4 d4 => q v B4 H4 (((t1.trans t2).trans t3).trans t4) s4 d4
end

/-! ### defs: a promise by a relation of symbolic values -/
/-- F: the arguments, the cells, what comes back with which cells -/
abbrev Pf := List SD → M → (SD → M → Prop) → Prop
def spOf (K : PySem.W.Frag) (F : Pf) : Sp := fun vs H Q _ => ∃ B as m R, F as m R ∧ SOk K B m H ∧ SdAll K B as vs ∧ ∀ v B2 H2 r m2, R r m2 → Tr B H (keys m) B2 H2 (keys m2) → SOk K B2 m2 H2 → SdOk K B2 r v → Q v H2
section
variable {K : PySem.W.Frag} {ds : List SD} {m m1 m' : M} {rs : List SD} {c : SD} {F : Pf} {E : XK} {t : TA}
/-- a call of a def that has no cells -/
theorem ev_call (h : EvA K t ds m rs m1) (hF : ∃ R, F rs [] R ∧ ∀ r m2, R r m2 → r = c ∧ m2 = []) : Ev K (tCall (spOf K F) [] E t) ds m c m1 := fun B H σ s st Q q =>
  h B H σ s st _ fun vs B1 H1 t1 s1 d1 => by
    obtain ⟨R, hR, hq⟩ := hF
    have s0 : SOk K B1 [] H1 := s1.sub (List.nil_sublist _)
    refine ⟨B1, rs, [], R, hR, s0, by rw [List.append_nil]; exact d1, fun v B2 H2 r m2 hr t2 s2 d2 => ?_⟩
    obtain ⟨rfl, rfl⟩ := hq r m2 hr
    have s1' : SOk K B1 ([] ++ m1) H1 := s1
    obtain ⟨t3, s3⟩ := fr_ok s1' t2 s2
    exact q v B2 H2 (t1.trans t3) s3 d2
/-- .. that gives a new cell -/
theorem en_call {cd : CD} (h : EvA K t ds m rs m1) (hF : ∃ R, F rs [] R ∧ ∀ r m2, R r m2 → ∃ p, r = .rf p ∧ m2 = [(p, cd)]) (hm : m1 = []) : EvN K (tCall (spOf K F) [] E t) ds m cd [] := fun B H σ s st Q q =>
  h B H σ s st _ fun vs B1 H1 t1 s1 d1 => by
    obtain ⟨R, hR, hq⟩ := hF
    subst hm
    refine ⟨B1, rs, [], R, hR, s1, by rw [List.append_nil]; exact d1, fun v B2 H2 r m2 hr t2 s2 d2 => ?_⟩
    obtain ⟨p, rfl, rfl⟩ := hq r m2 hr
    have e : v = .ref p := d2
    subst e
    exact q p B2 H2 (t1.trans t2) s2
theorem move : ∀ {m : M} {j : Nat} {x : Addr × CD}, m[j]? = some x → ([x] ++ m.eraseIdx j).Perm m
  | [], _, _, h => by simp at h
  | a :: r, 0, x, h => by
    have e : a = x := Option.some.inj h
    rw [e]
    exact List.Perm.refl _
  | a :: r, j + 1, x, h => (List.Perm.swap a x _).trans (List.Perm.cons a (move (m := r) (j := j) h))
theorem SOk.perm {B H : Hp} {m m2 : M} (s : SOk K B m H) (p : m2.Perm m) : SOk K B m2 H := ⟨s.ext, (p.map _).nodup_iff.mpr s.nd, fun q hq => s.out q (p.mem_iff.mp hq), fun q hq => s.cel q (p.mem_iff.mp hq)⟩
theorem Tr.perm {B H B2 H2 : Hp} {k k2 k' k2' : List Addr} (t : Tr B H k B2 H2 k') (p : ∀ a, a ∈ k ↔ a ∈ k2) (p' : ∀ a, a ∈ k' ↔ a ∈ k2') : Tr B H k2 B2 H2 k2' := ⟨t.ex, t.new, t.tp, fun a o h e => t.keep a o (fun z => h ((p a).mp z)) e, fun a z => (t.kys a ((p' a).mpr z)).imp (p a).mp id, t.grow⟩
theorem set_perm {m : M} {j : Nat} {x y : Addr × CD} (hj : m[j]? = some x) : ([y] ++ m.eraseIdx j).Perm (m.set j y) := by
  have h1 : (m.set j y)[j]? = some y := by
    obtain ⟨h1, h2⟩ := List.getElem?_eq_some_iff.mp hj
    rw [List.getElem?_set_self h1]
  have h2 := move h1
  rw [List.eraseIdx_set_eq] at h2
  exact h2
/-- a call of a def that has one cell, here at j -/
theorem ev_call1 {l : Addr} {cd cd' : CD} (j : Nat) (h : EvA K t ds m rs m1) (hj : m1[j]? = some (l, cd)) (hF : ∃ R, F rs [(l, cd)] R ∧ ∀ r m2, R r m2 → r = c ∧ m2 = [(l, cd')]) : Ev K (tCall (spOf K F) [] E t) ds m c (m1.set j (l, cd')) := fun B H σ s st Q q =>
  h B H σ s st _ fun vs B1 H1 t1 s1 d1 => by
    obtain ⟨R, hR, hq⟩ := hF
    have s1' : SOk K B1 ([(l, cd)] ++ m1.eraseIdx j) H1 := s1.perm (move hj)
    refine ⟨B1, rs, [(l, cd)], R, hR, s1'.sub (List.sublist_append_left _ _), by rw [List.append_nil]; exact d1, fun v B2 H2 r m2 hr t2 s2 d2 => ?_⟩
    obtain ⟨rfl, rfl⟩ := hq r m2 hr
    obtain ⟨t3, s3⟩ := fr_ok s1' t2 s2
    have p1 : ∀ a, a ∈ keys ([(l, cd)] ++ m1.eraseIdx j) ↔ a ∈ keys m1 := fun a => ((move hj).map Prod.fst).mem_iff
    have p2 : ∀ a, a ∈ keys ([(l, cd')] ++ m1.eraseIdx j) ↔ a ∈ keys (m1.set j (l, cd')) := fun a => ((set_perm (y := (l, cd')) hj).map Prod.fst).mem_iff
    exact q v B2 H2 (t1.trans (t3.perm p1 p2)) (s3.perm (set_perm hj).symm) d2
end
end FC
set_option maxHeartbeats 4000000
/-! FR: encodings of Lean values as data; what the operations are in Lean (none: a side condition of the model fails); their rules. -/
namespace FC
open PySem PySem.Spec PyProof.Rows L2 Evl

/-! ### encodings -/
section
variable {α β γ δ : Type}
def dI (i : Int) : PyData := .int i
def dB (b : Bool) : PyData := .bool b
def dS (s : Str) : PyData := .str s
def dN (_ : Unit) : PyData := .none
def dL (f : α → PyData) (xs : List α) : PyData := .list (xs.map f)
def dU (f : α → PyData) (xs : List α) : PyData := .tuple (xs.map f)
def dP (f : α → PyData) (g : β → PyData) (p : α × β) : PyData := .tuple [f p.1, g p.2]
def d3 (f : α → PyData) (g : β → PyData) (h : γ → PyData) (p : α × β × γ) : PyData := .tuple [f p.1, g p.2.1, h p.2.2]
def d4 (f : α → PyData) (g : β → PyData) (h : γ → PyData) (i : δ → PyData) (p : α × β × γ × δ) : PyData := .tuple [f p.1, g p.2.1, h p.2.2.1, i p.2.2.2]
def dO (f : α → PyData) : Option α → PyData
  | none => .none
  | some a => f a
end

/-! ### what is equal, what is less -/
class Enc {α : Type} [DecidableEq α] (f : α → PyData) where
  plain : ∀ a, (f a).plain = true
  eqv : ∀ a b, PyData.eqv (f a) (f b) = decide (a = b)
  dep : Nat
  dep_le : ∀ a, (f a).depth ≤ dep
class EncO {α : Type} [DecidableEq α] (f : α → PyData) extends Enc f where
  lt : α → α → Bool
  alike : ∀ a b, PySem.W.alike (f a) (f b) = true
  notNone : ∀ a, f a ≠ .none
  lt_eq : ∀ a b, PySem.W.dataLt (f a) (f b) = lt a b

section
variable {α β γ : Type} [DecidableEq α] [DecidableEq β] [DecidableEq γ] (f : α → PyData) (g : β → PyData) (h : γ → PyData)
theorem beq_dec {α : Type} [BEq α] [LawfulBEq α] [DecidableEq α] (a b : α) : (a == b) = decide (a = b) := by
  rw [Bool.eq_iff_iff, beq_iff_eq, decide_eq_true_eq]
instance : Enc dI where
  plain _ := rfl
  eqv a b := by show PyData.eqv (.int a) (.int b) = _; simp only [PyData.eqv]; exact beq_dec a b
  dep := 0
  dep_le _ := Nat.le_refl _
instance : Enc dB where
  plain _ := rfl
  eqv a b := by show PyData.eqv (.bool a) (.bool b) = _; simp only [PyData.eqv]; exact beq_dec a b
  dep := 0
  dep_le _ := Nat.le_refl _
instance : Enc dS where
  plain _ := rfl
  eqv a b := by show PyData.eqv (.str a) (.str b) = _; simp only [PyData.eqv]; exact beq_dec a b
  dep := 0
  dep_le _ := Nat.le_refl _
instance : Enc dN where
  plain _ := rfl
  eqv a b := by show PyData.eqv .none .none = _; simp only [PyData.eqv]; rfl
  dep := 0
  dep_le _ := Nat.le_refl _
theorem plainAll_enc [Enc f] : ∀ xs : List α, PyData.plainAll (xs.map f) = true
  | [] => rfl
  | x :: xs => by
    rw [List.map_cons, PyData.plainAll, Enc.plain x, plainAll_enc xs]
    rfl
theorem depthAll_enc [Enc f] : ∀ xs : List α, PyData.depthAll (xs.map f) ≤ Enc.dep f
  | [] => Nat.zero_le _
  | x :: xs => by
    rw [List.map_cons, PyData.depthAll]
    exact Nat.max_le.mpr ⟨Enc.dep_le x, depthAll_enc xs⟩
theorem eqvAll_enc [Enc f] : ∀ xs ys : List α, PyData.eqvAll (xs.map f) (ys.map f) = decide (xs = ys)
  | [], [] => by simp only [List.map_nil, PyData.eqvAll, decide_true]
  | [], _ :: _ => by simp [PyData.eqvAll]
  | _ :: _, [] => by simp [PyData.eqvAll]
  | x :: xs, y :: ys => by
    rw [List.map_cons, List.map_cons, PyData.eqvAll, Enc.eqv x y, eqvAll_enc xs ys, ← Bool.decide_and]
    exact decide_eq_decide.mpr (by rw [List.cons.injEq])
instance [Enc f] : Enc (dL f) where
  plain xs := by show (PyData.list _).plain = true; simp only [PyData.plain]; exact plainAll_enc f xs
  eqv xs ys := by show PyData.eqv (.list _) (.list _) = _; simp only [PyData.eqv]; exact eqvAll_enc f xs ys
  dep := Enc.dep f + 1
  dep_le xs := by show (PyData.list _).depth ≤ _; simp only [PyData.depth]; exact Nat.succ_le_succ (depthAll_enc f xs)
instance [Enc f] : Enc (dU f) where
  plain xs := by show (PyData.tuple _).plain = true; simp only [PyData.plain]; exact plainAll_enc f xs
  eqv xs ys := by show PyData.eqv (.tuple _) (.tuple _) = _; simp only [PyData.eqv]; exact eqvAll_enc f xs ys
  dep := Enc.dep f + 1
  dep_le xs := by show (PyData.tuple _).depth ≤ _; simp only [PyData.depth]; exact Nat.succ_le_succ (depthAll_enc f xs)
instance [Enc f] [Enc g] : Enc (dP f g) where
  plain p := by show (PyData.tuple _).plain = true; simp only [PyData.plain, PyData.plainAll, Enc.plain, Bool.and_self]
  eqv p q := by
    show PyData.eqv (.tuple _) (.tuple _) = _
    simp only [PyData.eqv, PyData.eqvAll]
    rw [Enc.eqv, Enc.eqv, Bool.and_true, ← Bool.decide_and]
    exact decide_eq_decide.mpr ⟨fun e => Prod.ext e.1 e.2, fun e => by rw [e]; exact ⟨rfl, rfl⟩⟩
  dep := max (Enc.dep f) (Enc.dep g) + 1
  dep_le p := by
    show (PyData.tuple _).depth ≤ _
    simp only [PyData.depth, PyData.depthAll]
    have h1 := Enc.dep_le (f := f) p.1
    have h2 := Enc.dep_le (f := g) p.2
    omega
instance [Enc f] [Enc g] [Enc h] : Enc (d3 f g h) where
  plain p := by show (PyData.tuple _).plain = true; simp only [PyData.plain, PyData.plainAll, Enc.plain, Bool.and_self]
  eqv p q := by
    show PyData.eqv (.tuple _) (.tuple _) = _
    simp only [PyData.eqv, PyData.eqvAll]
    rw [Enc.eqv, Enc.eqv, Enc.eqv, Bool.and_true, ← Bool.decide_and, ← Bool.decide_and]
    exact decide_eq_decide.mpr ⟨fun e => Prod.ext e.1 (Prod.ext e.2.1 e.2.2), fun e => by rw [e]; exact ⟨rfl, rfl, rfl⟩⟩
  dep := max (Enc.dep f) (max (Enc.dep g) (Enc.dep h)) + 1
  dep_le p := by
    show (PyData.tuple _).depth ≤ _
    simp only [PyData.depth, PyData.depthAll]
    have h1 := Enc.dep_le (f := f) p.1
    have h2 := Enc.dep_le (f := g) p.2.1
    have h3 := Enc.dep_le (f := h) p.2.2
    omega

/-- the first difference decides, else the shorter is the less -/
def ltL (lt : α → α → Bool) : List α → List α → Bool
  | [], [] => false
  | [], _ :: _ => true
  | _ :: _, [] => false
  | x :: xs, y :: ys => if x = y then ltL lt xs ys else lt x y
def ltP (lt : α → α → Bool) (lt2 : β → β → Bool) (p q : α × β) : Bool := if p.1 = q.1 then lt2 p.2 q.2 else lt p.1 q.1
def lt3 (lt : α → α → Bool) (lt2 : β → β → Bool) (ltt : γ → γ → Bool) (p q : α × β × γ) : Bool := if p.1 = q.1 then (if p.2.1 = q.2.1 then ltt p.2.2 q.2.2 else lt2 p.2.1 q.2.1) else lt p.1 q.1
def ltI (a b : Int) : Bool := decide (a < b)
def ltS (a b : Str) : Bool := decide (a.cps.toList < b.cps.toList)
instance : EncO dI where
  lt := ltI
  alike a b := by show PySem.W.alike (.int a) (.int b) = true; simp only [PySem.W.alike]
  notNone a := fun e => by cases e
  lt_eq a b := PySem.W.dataLt_int a b
instance : EncO dS where
  lt := ltS
  alike a b := by show PySem.W.alike (.str a) (.str b) = true; simp only [PySem.W.alike]
  notNone a := fun e => by cases e
  lt_eq a b := PySem.W.dataLt_str a b
theorem alikeAll_enc [EncO f] : ∀ xs ys : List α, PySem.W.alikeAll (xs.map f) (ys.map f) = true
  | [], _ => by rw [List.map_nil, PySem.W.alikeAll]
  | _ :: _, [] => by rw [List.map_nil, List.map_cons, PySem.W.alikeAll]
  | x :: xs, y :: ys => by
    rw [List.map_cons, List.map_cons, PySem.W.alikeAll, EncO.alike x y, alikeAll_enc xs ys]
    rfl
theorem lexAll_enc [EncO f] : ∀ xs ys : List α, PyProof.Rows.lexLt itemOrd (PySem.W.keyToksAll (xs.map f)) (PySem.W.keyToksAll (ys.map f)) = ltL (EncO.lt f) xs ys
  | [], [] => lex_irrefl _
  | [], y :: ys => by
    rw [List.map_nil, List.map_cons, PySem.W.toks_all_cons]
    simp only [PySem.W.keyToksAll]
    rw [lex_diff (O := itemOrd) (by simp)]
    rfl
  | x :: xs, [] => by
    rw [List.map_nil, List.map_cons, PySem.W.toks_all_cons]
    simp only [PySem.W.keyToksAll]
    rw [lex_diff (O := itemOrd) (by simp)]
    rfl
  | x :: xs, y :: ys => by
    rw [List.map_cons, List.map_cons, ltL]
    by_cases h : x = y
    · rw [if_pos h, PySem.W.dataLt_all_yes (EncO.alike x y) (by rw [Enc.eqv, decide_eq_true_eq]; exact h), lexAll_enc xs ys]
    · rw [if_neg h, PySem.W.dataLt_all_no (EncO.alike x y) (by rw [Enc.eqv, decide_eq_false_iff_not]; exact h)]
      exact EncO.lt_eq x y
instance [EncO f] : EncO (dL f) where
  lt := ltL (EncO.lt f)
  alike xs ys := by show PySem.W.alike (.list _) (.list _) = true; simp only [PySem.W.alike]; exact alikeAll_enc f xs ys
  notNone a := fun e => by cases e
  lt_eq xs ys := (PySem.W.dataLt_list _ _).trans (lexAll_enc f xs ys)
instance [EncO f] : EncO (dU f) where
  lt := ltL (EncO.lt f)
  alike xs ys := by show PySem.W.alike (.tuple _) (.tuple _) = true; simp only [PySem.W.alike]; exact alikeAll_enc f xs ys
  notNone a := fun e => by cases e
  lt_eq xs ys := (PySem.W.dataLt_tuple _ _).trans (lexAll_enc f xs ys)
theorem dataLt_self (d : PyData) : PySem.W.dataLt d d = false := lex_irrefl _
instance [EncO f] [EncO g] : EncO (dP f g) where
  lt := ltP (EncO.lt f) (EncO.lt g)
  alike p q := by
    show PySem.W.alike (.tuple [_, _]) (.tuple [_, _]) = true
    simp only [PySem.W.alike, PySem.W.alikeAll, EncO.alike, Bool.and_self]
  notNone a := fun e => by cases e
  lt_eq p q := by
    refine (PySem.W.dataLt_tuple _ _).trans ?_
    show _ = ltP _ _ p q
    unfold ltP
    by_cases h : p.1 = q.1
    · rw [if_pos h, PySem.W.dataLt_all_yes (EncO.alike p.1 q.1) (by rw [Enc.eqv, decide_eq_true_eq]; exact h)]
      by_cases h2 : p.2 = q.2
      · rw [PySem.W.dataLt_all_yes (EncO.alike p.2 q.2) (by rw [Enc.eqv, decide_eq_true_eq]; exact h2), lex_irrefl, h2]
        exact ((dataLt_self _).symm.trans (EncO.lt_eq q.2 q.2))
      · rw [PySem.W.dataLt_all_no (EncO.alike p.2 q.2) (by rw [Enc.eqv, decide_eq_false_iff_not]; exact h2)]
        exact EncO.lt_eq p.2 q.2
    · rw [if_neg h, PySem.W.dataLt_all_no (EncO.alike p.1 q.1) (by rw [Enc.eqv, decide_eq_false_iff_not]; exact h)]
      exact EncO.lt_eq p.1 q.1
end

/-! ### operations in Lean -/
section
variable {α β : Type}
def MulOk (i j : Int) : Prop := CMul i j ∨ CMulW i j
instance (i j : Int) : Decidable (MulOk i j) := by unfold MulOk CMul CMulW; infer_instance
instance (i j : Int) : Decidable (CPow i j) := by unfold CPow; infer_instance
instance (i j : Int) : Decidable (CDiv i j) := by unfold CDiv; infer_instance
instance (i j : Int) : Decidable (CDivW i j) := by unfold CDivW; infer_instance
def mulG (i j : Int) : Option Int := if MulOk i j then some (i * j) else none
def fdivG (i j : Int) : Option Int := if CDiv i j ∨ CDivW i j then some (i / j) else none
def modG (i j : Int) : Option Int := if 0 < j then some (i % j) else none
def lenG (n : Nat) : Option Unit := if n ≤ 16000000 then some () else none
def getI (xs : List α) (i : Int) : Option α := atI xs i
def setI (xs : List α) (i : Int) (x : α) : Option (List α) := (ixN xs.length i).map fun j => xs.set j x
def cutI (xs : List α) (lo hi : Option Int) : List α := (xs.drop (HT.sIx xs.length 0 lo)).take (HT.sIx xs.length xs.length hi - HT.sIx xs.length 0 lo)
def absI (i : Int) : Int := if i < 0 then -i else i
def b2 (b : Bool) : Int := if b then 1 else 0
def max2 (i j : Int) : Int := if j > i then j else i
def min2 (i j : Int) : Int := if j < i then j else i
def minL (lt : α → α → Bool) : List α → Option α
  | [] => none
  | x :: xs => some (xs.foldl (fun a y => if lt y a = true then y else a) x)
def maxL (lt : α → α → Bool) : List α → Option α
  | [] => none
  | x :: xs => some (xs.foldl (fun a y => if lt a y = true then y else a) x)
def srt (lt : α → α → Bool) (xs : List α) : List α := xs.mergeSort fun a b => !lt b a
def rng (a b : Int) : List Int := (List.range (b - a).toNat).map fun (i : Nat) => a + (i : Int)
def rngG (a b : Int) : Option (List Int) := if -(2 ^ 62) ≤ a ∧ a < 2 ^ 62 ∧ -(2 ^ 62) ≤ b ∧ b < 2 ^ 62 then some (rng a b) else none
theorem bindS {o : Option α} {f : α → Option β} {b : β} (h : o.bind f = some b) : ∃ a, o = some a ∧ f a = some b := by
  cases o with
  | none => cases h
  | some a => exact ⟨a, rfl, h⟩
theorem mulG_some {i j k : Int} (h : mulG i j = some k) : MulOk i j ∧ i * j = k := by
  unfold mulG at h
  split at h
  · exact ⟨by assumption, Option.some.inj h⟩
  · cases h
theorem fdivG_some {i j k : Int} (h : fdivG i j = some k) : (CDiv i j ∨ CDivW i j) ∧ i / j = k := by
  unfold fdivG at h
  split at h
  · exact ⟨by assumption, Option.some.inj h⟩
  · cases h
theorem modG_some {i j k : Int} (h : modG i j = some k) : 0 < j ∧ i % j = k := by
  unfold modG at h
  split at h
  · exact ⟨by assumption, Option.some.inj h⟩
  · cases h
theorem lenG_some {n : Nat} {u : Unit} (h : lenG n = some u) : n ≤ 16000000 := by
  unfold lenG at h
  split at h
  · assumption
  · cases h
theorem rngG_some {a b : Int} {l : List Int} (h : rngG a b = some l) : (-(2 ^ 62) ≤ a ∧ a < 2 ^ 62 ∧ -(2 ^ 62) ≤ b ∧ b < 2 ^ 62) ∧ rng a b = l := by
  unfold rngG at h
  split at h
  · exact ⟨by assumption, Option.some.inj h⟩
  · cases h
theorem atI_map {f : α → β} {xs : List α} {i : Int} {x : α} (h : atI xs i = some x) : atI (xs.map f) i = some (f x) := by
  unfold atI at h ⊢
  rw [List.length_map]
  cases e : ixN xs.length i with
  | none =>
    rw [e] at h
    cases h
  | some j =>
    rw [e] at h
    show (xs.map f)[j]? = some (f x)
    rw [List.getElem?_map, show xs[j]? = some x from h]
    rfl
end

/-! ### rules by values -/
section
variable {K : PySem.W.Frag} {B H : Hp} {m m1 m' : M} {a b c : SD} {α β : Type}
/-- a rule that leaves the heap as it is -/
theorem Rr.of {r : R2} (h : ∀ B H x y, SOk K B m H → SdOk K B a x → SdOk K B b y → ∀ Q : VK, (∀ v, SdOk K B c v → Q v H) → r x y H Q) : Rr K r a b m c m := fun B H x y s dx dy Q q =>
  h B H x y s dx dy Q fun v d => q v B H (Tr.refl _ _ _) s d
theorem Ru.of {r : V → Hp → VK → Prop} (h : ∀ B H x, SOk K B m H → SdOk K B a x → ∀ Q : VK, (∀ v, SdOk K B c v → Q v H) → r x H Q) : Ru K r a m c m := fun B H x s dx Q q =>
  h B H x s dx Q fun v d => q v B H (Tr.refl _ _ _) s d
theorem Rc.of {r : List V → Hp → VK → Prop} {as : List SD} (h : ∀ B H xs, SOk K B m H → SdAll K B as xs → ∀ Q : VK, (∀ v, SdOk K B c v → Q v H) → r xs H Q) : Rc K r as m c m := fun B H x s dx Q q =>
  h B H x s dx Q fun v d => q v B H (Tr.refl _ _ _) s d
theorem int_of {i : Int} {v : V} (h : SdOk K B (.da (dI i)) v) : v = .int i := by
  have h' : Dq B v (.int i) := h
  cases h'
  rfl
theorem bl_of {i : Bool} {v : V} (h : SdOk K B (.da (dB i)) v) : v = .bl i := by
  have h' : Dq B v (.bool i) := h
  cases h'
  rfl
theorem str_of {i : Str} {v : V} (h : SdOk K B (.da (dS i)) v) : v = .str i := by
  have h' : Dq B v (.str i) := h
  cases h'
  rfl
theorem non_of {v : V} (h : SdOk K B (.da .none) v) : v = .non := by
  have h' : Dq B v .none := h
  cases h'
  rfl
theorem lst_of {f : α → PyData} {xs : List α} {v : V} (h : SdOk K B (.da (dL f xs)) v) : ∃ p vs, v = .ref p ∧ B p = some (.lst vs) ∧ DqAll B vs (xs.map f) := by
  have h' : Dq B v (.list (xs.map f)) := h
  cases h' with
  | lst h1 h2 => exact ⟨_, _, rfl, h1, h2⟩
theorem tup_of {f : α → PyData} {xs : List α} {v : V} (h : SdOk K B (.da (dU f xs)) v) : ∃ p vs, v = .ref p ∧ B p = some (.tup vs) ∧ DqAll B vs (xs.map f) := by
  have h' : Dq B v (.tuple (xs.map f)) := h
  cases h' with
  | tup h1 h2 => exact ⟨_, _, rfl, h1, h2⟩
theorem pair_of {f : α → PyData} {g : β → PyData} {p : α × β} {v : V} (h : SdOk K B (.da (dP f g p)) v) : ∃ q x y, v = .ref q ∧ B q = some (.tup [x, y]) ∧ Dq B x (f p.1) ∧ Dq B y (g p.2) := by
  have h' : Dq B v (.tuple [f p.1, g p.2]) := h
  cases h' with
  | tup h1 h2 =>
    cases h2 with
    | cons a1 t =>
      cases t with
      | cons a2 t =>
        cases t
        exact ⟨_, _, _, rfl, h1, a1, a2⟩
theorem dq_tuple {dl : List PyData} {v : V} (h : SdOk K B (.da (.tuple dl)) v) : ∃ p vs, v = .ref p ∧ B p = some (.tup vs) ∧ DqAll B vs dl := by
  have h' : Dq B v (.tuple dl) := h
  cases h' with
  | tup h1 h2 => exact ⟨_, _, rfl, h1, h2⟩
theorem dqa_get : ∀ {vs : List V} {dl : List PyData} {i : Nat} {d : PyData}, DqAll B vs dl → dl[i]? = some d → ∃ v, vs[i]? = some v ∧ Dq B v d
  | _, _, _, _, .nil, h => by simp at h
  | _, _, 0, d, .cons h _, e => by
    have e' := Option.some.inj e
    subst e'
    exact ⟨_, rfl, h⟩
  | _, _, i + 1, d, .cons _ t, e => dqa_get (i := i) t e
theorem dqa_at {vs : List V} {dl : List PyData} {i : Int} {d : PyData} (h : DqAll B vs dl) (e : atI dl i = some d) : ∃ v, atI vs i = some v ∧ Dq B v d := by
  unfold atI at e ⊢
  rw [dpa_len h]
  cases q : ixN dl.length i with
  | none =>
    rw [q] at e
    cases e
  | some j =>
    rw [q] at e
    exact dqa_get h e
theorem dqa_set : ∀ {vs : List V} {dl : List PyData} (j : Nat) {v : V} {d : PyData}, DqAll B vs dl → Dq B v d → DqAll B (vs.set j v) (dl.set j d)
  | _, _, _, _, _, .nil, _ => .nil
  | _, _, 0, _, _, .cons _ t, q => .cons q t
  | _, _, j + 1, _, _, .cons h t, q => .cons h (dqa_set j t q)
theorem dqa_app : ∀ {vs ws : List V} {dl el : List PyData}, DqAll B vs dl → DqAll B ws el → DqAll B (vs ++ ws) (dl ++ el)
  | _, _, _, _, .nil, q => q
  | _, _, _, _, .cons h t, q => .cons h (dqa_app t q)
theorem dqa_take : ∀ {vs : List V} {dl : List PyData} (n : Nat), DqAll B vs dl → DqAll B (vs.take n) (dl.take n)
  | _, _, 0, _ => .nil
  | _, _, n + 1, .nil => .nil
  | _, _, n + 1, .cons h t => .cons h (dqa_take n t)
theorem dqa_drop : ∀ {vs : List V} {dl : List PyData} (n : Nat), DqAll B vs dl → DqAll B (vs.drop n) (dl.drop n)
  | _, _, 0, h => h
  | _, _, n + 1, .nil => .nil
  | _, _, n + 1, .cons h t => dqa_drop n t
theorem dqa_ints : ∀ {vs : List V} {ns : List Int}, DqAll B vs (ns.map dI) → vs = ns.map V.int
  | _, [], .nil => rfl
  | _, n :: ns, .cons h t => by
    have e := int_of (K := default) h
    rw [e, dqa_ints t]
    rfl
theorem ints_dqa : ∀ (ns : List Int), DqAll B (ns.map V.int) (ns.map dI)
  | [] => .nil
  | n :: ns => .cons (.int n) (ints_dqa ns)
theorem dqa_bools : ∀ {vs : List V} {ns : List Bool}, DqAll B vs (ns.map dB) → vs = ns.map V.bl
  | _, [], .nil => rfl
  | _, n :: ns, .cons h t => by
    have e := bl_of (K := default) h
    rw [e, dqa_bools t]
    rfl
theorem dqa_strs : ∀ {vs : List V} {ns : List Str}, DqAll B vs (ns.map dS) → vs = ns.map V.str
  | _, [], .nil => rfl
  | _, n :: ns, .cons h t => by
    have e := str_of (K := default) h
    rw [e, dqa_strs t]
    rfl

/-! arithmetic -/
theorem rr_i {f : Int → Int → Int} {i j : Int} : Rr K (rI0 fun i j => .int (f i j)) (.da (dI i)) (.da (dI j)) m (.da (dI (f i j))) m := Rr.of fun B H x y s dx dy Q q => ⟨i, j, int_of dx, int_of dy, q _ (.int _)⟩
theorem rr_b {f : Int → Int → Bool} {i j : Int} : Rr K (rI0 fun i j => .bl (f i j)) (.da (dI i)) (.da (dI j)) m (.da (dB (f i j))) m := Rr.of fun B H x y s dx dy Q q => ⟨i, j, int_of dx, int_of dy, q _ (.bl _)⟩
theorem rr_c {C : Int → Int → Prop} {f : Int → Int → Int} {i j k : Int} (h : C i j) (e : f i j = k) : Rr K (rI C fun i j => .int (f i j)) (.da (dI i)) (.da (dI j)) m (.da (dI k)) m := Rr.of fun B H x y s dx dy Q q => ⟨i, j, int_of dx, int_of dy, h, by
  show Q (.int (f i j)) H
  rw [e]
  exact q _ (.int _)⟩
def rMulA : R2 := fun x y H Q => rI CMul (fun i j => .int (i * j)) x y H Q ∨ rI CMulW (fun i j => .int (i * j)) x y H Q
def rDivA : R2 := fun x y H Q => rI CDiv (fun i j => .int (i / j)) x y H Q ∨ rI CDivW (fun i j => .int (i / j)) x y H Q
theorem op_mulA {X : Cx} : OpR X (binaryOp .Mult) rMulA := OpR.or op_mul op_mulW
theorem op_divA {X : Cx} : OpR X (binaryOp .FloorDiv) rDivA := OpR.or op_fdiv op_fdivW
theorem rr_mul {i j k : Int} (h : mulG i j = some k) : Rr K rMulA (.da (dI i)) (.da (dI j)) m (.da (dI k)) m := Rr.of fun B H x y s dx dy Q q => by
  obtain ⟨h1 | h1, h2⟩ := mulG_some h
  · exact Or.inl ⟨i, j, int_of dx, int_of dy, h1, by subst h2; exact q _ (.int _)⟩
  · exact Or.inr ⟨i, j, int_of dx, int_of dy, h1, by subst h2; exact q _ (.int _)⟩
theorem rr_div {i j k : Int} (h : fdivG i j = some k) : Rr K rDivA (.da (dI i)) (.da (dI j)) m (.da (dI k)) m := Rr.of fun B H x y s dx dy Q q => by
  obtain ⟨h1 | h1, h2⟩ := fdivG_some h
  · exact Or.inl ⟨i, j, int_of dx, int_of dy, h1, by subst h2; exact q _ (.int _)⟩
  · exact Or.inr ⟨i, j, int_of dx, int_of dy, h1, by subst h2; exact q _ (.int _)⟩
theorem rr_mod {i j k : Int} (h : modG i j = some k) : Rr K (rI (fun _ j => 0 < j) fun i j => .int (i % j)) (.da (dI i)) (.da (dI j)) m (.da (dI k)) m := rr_c (f := fun i j => i % j) (modG_some h).1 (modG_some h).2
theorem ru_neg {i : Int} : Ru K (rU fun i => .int (-i)) (.da (dI i)) m (.da (dI (-i))) m := Ru.of fun B H x s dx Q q => ⟨i, int_of dx, q _ (.int _)⟩
/-! scalars -/
theorem rr_eqI {i j : Int} : Rr K rEq (.da (dI i)) (.da (dI j)) m (.da (dB (decide (i = j)))) m := Rr.of fun B H x y s dx dy Q q => by
  rw [int_of dx, int_of dy]
  refine ⟨rfl, ?_⟩
  rw [decide_eq_decide.mpr (show V.int i = V.int j ↔ i = j from ⟨fun e => V.int.inj e, fun e => by rw [e]⟩)]
  exact q _ (.bl _)
theorem rr_neI {i j : Int} : Rr K rNe (.da (dI i)) (.da (dI j)) m (.da (dB (!decide (i = j)))) m := Rr.of fun B H x y s dx dy Q q => by
  rw [int_of dx, int_of dy]
  refine ⟨rfl, ?_⟩
  rw [decide_eq_decide.mpr (show V.int i = V.int j ↔ i = j from ⟨fun e => V.int.inj e, fun e => by rw [e]⟩)]
  exact q _ (.bl _)
theorem rr_eqB {i j : Bool} : Rr K rEq (.da (dB i)) (.da (dB j)) m (.da (dB (decide (i = j)))) m := Rr.of fun B H x y s dx dy Q q => by
  rw [bl_of dx, bl_of dy]
  refine ⟨rfl, ?_⟩
  rw [decide_eq_decide.mpr (show V.bl i = V.bl j ↔ i = j from ⟨fun e => V.bl.inj e, fun e => by rw [e]⟩)]
  exact q _ (.bl _)
theorem rr_neB {i j : Bool} : Rr K rNe (.da (dB i)) (.da (dB j)) m (.da (dB (!decide (i = j)))) m := Rr.of fun B H x y s dx dy Q q => by
  rw [bl_of dx, bl_of dy]
  refine ⟨rfl, ?_⟩
  rw [decide_eq_decide.mpr (show V.bl i = V.bl j ↔ i = j from ⟨fun e => V.bl.inj e, fun e => by rw [e]⟩)]
  exact q _ (.bl _)
theorem rr_eqS {i j : Str} : Rr K rEq (.da (dS i)) (.da (dS j)) m (.da (dB (decide (i = j)))) m := Rr.of fun B H x y s dx dy Q q => by
  rw [str_of dx, str_of dy]
  refine ⟨rfl, ?_⟩
  rw [decide_eq_decide.mpr (show V.str i = V.str j ↔ i = j from ⟨fun e => V.str.inj e, fun e => by rw [e]⟩)]
  exact q _ (.bl _)
theorem rr_neS {i j : Str} : Rr K rNe (.da (dS i)) (.da (dS j)) m (.da (dB (!decide (i = j)))) m := Rr.of fun B H x y s dx dy Q q => by
  rw [str_of dx, str_of dy]
  refine ⟨rfl, ?_⟩
  rw [decide_eq_decide.mpr (show V.str i = V.str j ↔ i = j from ⟨fun e => V.str.inj e, fun e => by rw [e]⟩)]
  exact q _ (.bl _)
/-- what is None -/
def rIsNo : R2 := fun x y H Q => y = .non ∧ Q (.bl (decide (x = .non))) H
def rNotNo : R2 := fun x y H Q => y = .non ∧ Q (.bl (!decide (x = .non))) H
theorem op_isNo {X : Cx} : OpR X (compareOp .Is) rIsNo := op_isN
theorem op_notNo {X : Cx} : OpR X (compareOp .IsNot) rNotNo := op_notN
class NotNo (f : α → PyData) : Prop where
  no : ∀ a, f a ≠ .none
instance : NotNo dI := ⟨fun _ h => by cases h⟩
instance : NotNo dB := ⟨fun _ h => by cases h⟩
instance : NotNo dS := ⟨fun _ h => by cases h⟩
instance {f : α → PyData} : NotNo (dL f) := ⟨fun _ h => by cases h⟩
instance {f : α → PyData} : NotNo (dU f) := ⟨fun _ h => by cases h⟩
instance {f : α → PyData} {g : β → PyData} : NotNo (dP f g) := ⟨fun _ h => by cases h⟩
instance {γ : Type} {f : α → PyData} {g : β → PyData} {h : γ → PyData} : NotNo (d3 f g h) := ⟨fun _ h => by cases h⟩
theorem dO_non {f : α → PyData} [NotNo f] {o : Option α} {v : V} (h : Dq B v (dO f o)) : decide (v = .non) = o.isNone := by
  cases o with
  | none =>
    have h' : Dq B v .none := h
    cases h'
    rfl
  | some a =>
    have h' : Dq B v (f a) := h
    have hn := NotNo.no (f := f) a
    cases v with
    | non =>
      generalize f a = d at h' hn
      cases h'
      exact absurd rfl hn
    | _ => rfl
theorem rr_isNo {f : α → PyData} [NotNo f] {o : Option α} : Rr K rIsNo (.da (dO f o)) (.da .none) m (.da (dB o.isNone)) m := Rr.of fun B H x y s dx dy Q q => ⟨non_of dy, by
  rw [dO_non dx]
  exact q _ (.bl _)⟩
theorem rr_notNo {f : α → PyData} [NotNo f] {o : Option α} : Rr K rNotNo (.da (dO f o)) (.da .none) m (.da (dB o.isSome)) m := Rr.of fun B H x y s dx dy Q q => ⟨non_of dy, by
  rw [dO_non dx]
  have : (!o.isNone) = o.isSome := by cases o <;> rfl
  rw [this]
  exact q _ (.bl _)⟩
end

/-! ### data compared: own rules of the machine -/
section
variable {X : Cx}
def rEqP (K : PySem.W.Frag) : R2 := fun x y H Q => ∃ d e, Dp K H x d ∧ Dp K H y e ∧ d.plain = true ∧ e.plain = true ∧ d.depth ≤ 60 ∧ Q (.bl (PyData.eqv d e)) H
def rNeP (K : PySem.W.Frag) : R2 := fun x y H Q => ∃ d e, Dp K H x d ∧ Dp K H y e ∧ d.plain = true ∧ e.plain = true ∧ d.depth ≤ 60 ∧ Q (.bl (!PyData.eqv d e)) H
theorem room_min {u a b : Nat} (h : a ≤ 60) (hu : u + 64 < cLine) : u + min a b < cLine := by
  have := Nat.min_le_left a b
  omega
theorem op_eqP (hu : X.A.units + 64 < cLine) : OpR X (compareOp .Eq) (rEqP X.K) := by
  intro pins s σ H x y v u Q I rx ry h
  obtain ⟨d, e, hd, he, sd, se, hdp, q⟩ := h
  obtain ⟨as, r1⟩ := Dp.reads I d x v hd rx
  obtain ⟨bs, r2⟩ := Dp.reads I e y u he ry
  exact PySem.SeqAt.eq_plain r1 r2 sd se (room_min hdp hu) ⟨.bl _, H, I, rfl, q⟩
theorem op_neP (hu : X.A.units + 64 < cLine) : OpR X (compareOp .NotEq) (rNeP X.K) := by
  intro pins s σ H x y v u Q I rx ry h
  obtain ⟨d, e, hd, he, sd, se, hdp, q⟩ := h
  obtain ⟨as, r1⟩ := Dp.reads I d x v hd rx
  obtain ⟨bs, r2⟩ := Dp.reads I e y u he ry
  exact PySem.SeqAt.ne_plain r1 r2 sd se (room_min hdp hu) ⟨.bl _, H, I, rfl, q⟩
/-- <, >, <=, >= of data -/
def rCmpP (K : PySem.W.Frag) (f : PyData → PyData → Bool) : R2 := fun x y H Q => ∃ d e, Dp K H x d ∧ Dp K H y e ∧ PySem.W.alike d e = true ∧ d ≠ .none ∧ d.depth ≤ 60 ∧ Q (.bl (f d e)) H
theorem op_ltP (hu : X.A.units + 64 < cLine) : OpR X (compareOp .Lt) (rCmpP X.K fun d e => PySem.W.dataLt d e) := by
  intro pins s σ H x y v u Q I rx ry h
  obtain ⟨d, e, hd, he, sa, sn, hdp, q⟩ := h
  obtain ⟨as, r1⟩ := Dp.reads I d x v hd rx
  obtain ⟨bs, r2⟩ := Dp.reads I e y u he ry
  exact PySem.W.lt_data r1 r2 sa sn (room_min hdp hu) ⟨.bl _, H, I, rfl, q⟩
theorem op_gtP (hu : X.A.units + 64 < cLine) : OpR X (compareOp .Gt) (rCmpP X.K fun d e => PySem.W.dataLt e d) := by
  intro pins s σ H x y v u Q I rx ry h
  obtain ⟨d, e, hd, he, sa, sn, hdp, q⟩ := h
  obtain ⟨as, r1⟩ := Dp.reads I d x v hd rx
  obtain ⟨bs, r2⟩ := Dp.reads I e y u he ry
  exact PySem.W.gt_data r1 r2 sa sn (room_min hdp hu) ⟨.bl _, H, I, rfl, q⟩
theorem op_leP (hu : X.A.units + 64 < cLine) : OpR X (compareOp .LtE) (rCmpP X.K fun d e => !PySem.W.dataLt e d) := by
  intro pins s σ H x y v u Q I rx ry h
  obtain ⟨d, e, hd, he, sa, sn, hdp, q⟩ := h
  obtain ⟨as, r1⟩ := Dp.reads I d x v hd rx
  obtain ⟨bs, r2⟩ := Dp.reads I e y u he ry
  exact PySem.W.le_data r1 r2 sa sn (room_min hdp hu) ⟨.bl _, H, I, rfl, q⟩
theorem op_geP (hu : X.A.units + 64 < cLine) : OpR X (compareOp .GtE) (rCmpP X.K fun d e => !PySem.W.dataLt d e) := by
  intro pins s σ H x y v u Q I rx ry h
  obtain ⟨d, e, hd, he, sa, sn, hdp, q⟩ := h
  obtain ⟨as, r1⟩ := Dp.reads I d x v hd rx
  obtain ⟨bs, r2⟩ := Dp.reads I e y u he ry
  exact PySem.W.ge_data r1 r2 sa sn (room_min hdp hu) ⟨.bl _, H, I, rfl, q⟩
/-- x in l, l a list of data -/
def rInP (K : PySem.W.Frag) (neg : Bool) : R2 := fun x y H Q => ∃ d ds, Dp K H x d ∧ Dp K H y (.list ds) ∧ d.plain = true ∧ PyData.plainAll ds = true ∧ d.depth ≤ 60 ∧ Q (.bl (if neg then !(ds.any fun y => PyData.eqv y d) else ds.any fun y => PyData.eqv y d)) H
theorem op_inP (hu : X.A.units + 65 < cLine) : OpR X (compareOp .In) (rInP X.K false) := by
  intro pins s σ H x y v u Q I rx ry h
  obtain ⟨d, ds, hd, he, sd, se, hdp, q⟩ := h
  obtain ⟨as, r1⟩ := Dp.reads I d x v hd rx
  obtain ⟨bs, r2⟩ := Dp.reads I (.list ds) y u he ry
  refine PySem.SeqAt.in_list_data r2 r1 se sd ?_ ⟨.bl _, H, I, rfl, q⟩
  have := Nat.min_le_right (PyData.depthAll ds) d.depth
  omega
theorem op_notInP (hu : X.A.units + 65 < cLine) : OpR X (compareOp .NotIn) (rInP X.K true) := by
  intro pins s σ H x y v u Q I rx ry h
  obtain ⟨d, ds, hd, he, sd, se, hdp, q⟩ := h
  obtain ⟨as, r1⟩ := Dp.reads I d x v hd rx
  obtain ⟨bs, r2⟩ := Dp.reads I (.list ds) y u he ry
  refine PySem.SeqAt.notIn_list_data r2 r1 se sd ?_ ⟨.bl _, H, I, rfl, q⟩
  have := Nat.min_le_right (PyData.depthAll ds) d.depth
  omega
end
end FC
set_option maxHeartbeats 4000000
/-! FS: built-ins, subscripts, slices, methods of lists, dicts. -/
namespace FC
open PySem PySem.Spec PyProof.Rows L2 Evl

section
variable {K : PySem.W.Frag} {B H : Hp} {m m1 m' : M} {a b c : SD} {α β γ : Type} {f : α → PyData} {g : β → PyData}
theorem sda1 {vs : List V} (h : SdAll K B [a] vs) : ∃ v, vs = [v] ∧ SdOk K B a v := by
  cases vs with
  | nil => exact h.elim
  | cons v r =>
    cases r with
    | nil => exact ⟨v, rfl, h.1⟩
    | cons w r => exact h.2.elim
theorem sda2 {vs : List V} (h : SdAll K B [a, b] vs) : ∃ v w, vs = [v, w] ∧ SdOk K B a v ∧ SdOk K B b w := by
  cases vs with
  | nil => exact h.elim
  | cons v r =>
    obtain ⟨w, rfl, h2⟩ := sda1 h.2
    exact ⟨v, w, rfl, h.1, h2⟩
/-! ### comparisons, typed -/
theorem da_dp {d : PyData} {v : V} (s : SOk K B m H) (h : SdOk K B (.da d) v) : Dp K H v d := (dp_mono s.ext (show Dq B v d from h)).dp
theorem rr_eq [DecidableEq α] [e : Enc f] {x y : α} (hd : Enc.dep f ≤ 60) : Rr K (rEqP K) (.da (f x)) (.da (f y)) m (.da (dB (decide (x = y)))) m := Rr.of fun B H u v s dx dy Q q =>
  ⟨f x, f y, da_dp s dx, da_dp s dy, Enc.plain x, Enc.plain y, Nat.le_trans (Enc.dep_le x) hd, by rw [Enc.eqv]; exact q _ (.bl _)⟩
theorem rr_ne [DecidableEq α] [e : Enc f] {x y : α} (hd : Enc.dep f ≤ 60) : Rr K (rNeP K) (.da (f x)) (.da (f y)) m (.da (dB (!decide (x = y)))) m := Rr.of fun B H u v s dx dy Q q =>
  ⟨f x, f y, da_dp s dx, da_dp s dy, Enc.plain x, Enc.plain y, Nat.le_trans (Enc.dep_le x) hd, by rw [Enc.eqv]; exact q _ (.bl _)⟩
theorem rr_lt [DecidableEq α] [e : EncO f] {x y : α} (hd : Enc.dep f ≤ 60) : Rr K (rCmpP K fun d e => PySem.W.dataLt d e) (.da (f x)) (.da (f y)) m (.da (dB (EncO.lt f x y))) m := Rr.of fun B H u v s dx dy Q q =>
  ⟨f x, f y, da_dp s dx, da_dp s dy, EncO.alike x y, EncO.notNone x, Nat.le_trans (Enc.dep_le x) hd, by show Q (.bl (PySem.W.dataLt (f x) (f y))) H; rw [EncO.lt_eq]; exact q _ (.bl _)⟩
theorem rr_gt [DecidableEq α] [e : EncO f] {x y : α} (hd : Enc.dep f ≤ 60) : Rr K (rCmpP K fun d e => PySem.W.dataLt e d) (.da (f x)) (.da (f y)) m (.da (dB (EncO.lt f y x))) m := Rr.of fun B H u v s dx dy Q q =>
  ⟨f x, f y, da_dp s dx, da_dp s dy, EncO.alike x y, EncO.notNone x, Nat.le_trans (Enc.dep_le x) hd, by show Q (.bl (PySem.W.dataLt (f y) (f x))) H; rw [EncO.lt_eq]; exact q _ (.bl _)⟩
theorem rr_le [DecidableEq α] [e : EncO f] {x y : α} (hd : Enc.dep f ≤ 60) : Rr K (rCmpP K fun d e => !PySem.W.dataLt e d) (.da (f x)) (.da (f y)) m (.da (dB (!EncO.lt f y x))) m := Rr.of fun B H u v s dx dy Q q =>
  ⟨f x, f y, da_dp s dx, da_dp s dy, EncO.alike x y, EncO.notNone x, Nat.le_trans (Enc.dep_le x) hd, by show Q (.bl (!PySem.W.dataLt (f y) (f x))) H; rw [EncO.lt_eq]; exact q _ (.bl _)⟩
theorem rr_ge [DecidableEq α] [e : EncO f] {x y : α} (hd : Enc.dep f ≤ 60) : Rr K (rCmpP K fun d e => !PySem.W.dataLt d e) (.da (f x)) (.da (f y)) m (.da (dB (!EncO.lt f x y))) m := Rr.of fun B H u v s dx dy Q q =>
  ⟨f x, f y, da_dp s dx, da_dp s dy, EncO.alike x y, EncO.notNone x, Nat.le_trans (Enc.dep_le x) hd, by show Q (.bl (!PySem.W.dataLt (f x) (f y))) H; rw [EncO.lt_eq]; exact q _ (.bl _)⟩
def memB [DecidableEq α] (x : α) (xs : List α) : Bool := xs.any fun y => decide (y = x)
theorem memB_iff [DecidableEq α] {x : α} {xs : List α} : memB x xs = true ↔ x ∈ xs := by
  unfold memB; rw [List.any_eq_true]
  exact ⟨fun ⟨y, hy, e⟩ => of_decide_eq_true e ▸ hy, fun h => ⟨x, h, decide_eq_true rfl⟩⟩
theorem any_enc [DecidableEq α] [e : Enc f] (xs : List α) (x : α) : ((xs.map f).any fun d => PyData.eqv d (f x)) = memB x xs := by
  rw [List.any_map]; unfold memB
  congr 1; funext y; exact Enc.eqv y x
theorem rr_in [DecidableEq α] [e : Enc f] {x : α} {xs : List α} (hd : Enc.dep f ≤ 60) : Rr K (rInP K false) (.da (f x)) (.da (dL f xs)) m (.da (dB (memB x xs))) m := Rr.of fun B H u v s dx dy Q q =>
  ⟨f x, xs.map f, da_dp s dx, da_dp s dy, Enc.plain x, plainAll_enc f xs, Nat.le_trans (Enc.dep_le x) hd, by
    show Q (.bl ((xs.map f).any fun d => PyData.eqv d (f x))) H
    rw [any_enc]; exact q _ (.bl _)⟩
theorem rr_notIn [DecidableEq α] [e : Enc f] {x : α} {xs : List α} (hd : Enc.dep f ≤ 60) : Rr K (rInP K true) (.da (f x)) (.da (dL f xs)) m (.da (dB (!memB x xs))) m := Rr.of fun B H u v s dx dy Q q =>
  ⟨f x, xs.map f, da_dp s dx, da_dp s dy, Enc.plain x, plainAll_enc f xs, Nat.le_trans (Enc.dep_le x) hd, by
    show Q (.bl (!((xs.map f).any fun d => PyData.eqv d (f x)))) H
    rw [any_enc]; exact q _ (.bl _)⟩

/-! ### subscripts -/
theorem rr_ixL {xs : List α} {i : Int} {x : α} (h : getI xs i = some x) : Rr K (rIxL K) (.da (dL f xs)) (.da (dI i)) m (.da (f x)) m := Rr.of fun B H u v s dx dy Q q => by
  obtain ⟨p, vs, rfl, hp, ha⟩ := lst_of dx
  obtain ⟨w, h1, h2⟩ := dqa_at ha (atI_map h)
  exact ⟨p, vs, i, w, rfl, int_of dy, SqL.of (s.ext _ _ hp), h1, q _ h2⟩
theorem rr_ixU {xs : List α} {i : Int} {x : α} (h : getI xs i = some x) : Rr K (rIxT K) (.da (dU f xs)) (.da (dI i)) m (.da (f x)) m := Rr.of fun B H u v s dx dy Q q => by
  obtain ⟨p, vs, rfl, hp, ha⟩ := tup_of dx
  obtain ⟨w, h1, h2⟩ := dqa_at ha (atI_map h)
  exact ⟨p, vs, i, w, rfl, int_of dy, SqT.of (s.ext _ _ hp), h1, q _ h2⟩
/-- a written place of a tuple of written length -/
theorem rr_ixT {dl : List PyData} {i : Int} {d : PyData} (h : atI dl i = some d) : Rr K (rIxT K) (.da (.tuple dl)) (.da (dI i)) m (.da d) m := Rr.of fun B H u v s dx dy Q q => by
  obtain ⟨p, vs, rfl, hp, ha⟩ := dq_tuple dx
  obtain ⟨w, h1, h2⟩ := dqa_at ha h
  exact ⟨p, vs, i, w, rfl, int_of dy, SqT.of (s.ext _ _ hp), h1, q _ h2⟩
theorem rr_ixC {xs : List α} {i : Int} {x : α} {l : Addr} (j : Nat) (hj : m[j]? = some (l, .ls (xs.map f))) (h : getI xs i = some x) : Rr K (rIxL K) (.rf l) (.da (dI i)) m (.da (f x)) m := Rr.of fun B H u v s dx dy Q q => by
  obtain ⟨vs, h1, h2⟩ := s.ls hj
  obtain ⟨w, h3, h4⟩ := dqa_at h2 (atI_map h)
  exact ⟨l, vs, i, w, dx, int_of dy, SqL.of h1, h3, q _ h4⟩
theorem rr_ixSc {ns : List Int} {i x : Int} {l : Addr} (h : getI ns i = some x) : Rr K (rIxL K) (.sl l ns) (.da (dI i)) m (.da (dI x)) m := Rr.of fun B H u v s dx dy Q q => by
  exact ⟨l, ns.map V.int, i, .int x, dx.1, int_of dy, ex_l s.ext dx.2, atI_map h, q _ (.int x)⟩

/-! ### slices -/
theorem cutV_eq (xs : List V) (lo hi : Option Int) : cutV xs lo hi = cutI xs lo hi := rfl
theorem cutI_map (xs : List α) (lo hi : Option Int) : cutI (xs.map f) lo hi = (cutI xs lo hi).map f := by
  unfold cutI
  rw [List.map_take, List.map_drop, List.length_map]
theorem dqa_cut {vs : List V} {dl : List PyData} (h : DqAll B vs dl) (lo hi : Option Int) : DqAll B (cutI vs lo hi) (cutI dl lo hi) := by
  unfold cutI
  rw [dpa_len h]
  exact dqa_take _ (dqa_drop _ h)
theorem rs_L {xs : List α} {lo hi : Option Int} : Rs K (rSlL K) (.da (dL f xs)) lo hi m (.da (dL f (cutI xs lo hi))) m := fun B H u s dx Q q => by
  obtain ⟨p, vs, rfl, hp, ha⟩ := lst_of dx
  refine ⟨p, vs, rfl, SqL.of (s.ext _ _ hp), fun w hw => q _ _ _ (Tr.data s hw) (s.data hw) ?_⟩
  refine Dq.lst upd_same (dpa_mono (Ex.new (fresh_b s hw)) ?_)
  rw [← cutI_map]
  exact dqa_cut ha lo hi
theorem rs_C {xs : List α} {lo hi : Option Int} {l : Addr} (j : Nat) (hj : m[j]? = some (l, .ls (xs.map f))) : Rs K (rSlL K) (.rf l) lo hi m (.da (dL f (cutI xs lo hi))) m := fun B H u s dx Q q => by
  obtain ⟨vs, hp, ha⟩ := s.ls hj
  refine ⟨l, vs, dx, SqL.of hp, fun w hw => q _ _ _ (Tr.data s hw) (s.data hw) ?_⟩
  refine Dq.lst upd_same (dpa_mono (Ex.new (fresh_b s hw)) ?_)
  rw [← cutI_map]
  exact dqa_cut ha lo hi
/-- a tuple's slice: the tuple itself, or a new one -/
theorem rs_T {dl : List PyData} {lo hi : Option Int} : Rs K (rSlA K) (.da (.tuple dl)) lo hi m (.da (.tuple (cutI dl lo hi))) m := fun B H u s dx Q q => by
  obtain ⟨p, vs, rfl, hp, ha⟩ := dq_tuple dx
  refine ⟨p, vs, rfl, SqT.of (s.ext _ _ hp), fun hw => ?_, fun _ w hw => q _ _ _ (Tr.data s hw) (s.data hw) (Dq.tup upd_same (dpa_mono (Ex.new (fresh_b s hw)) (dqa_cut ha lo hi)))⟩
  refine q _ B H (Tr.refl _ _ _) s ?_
  have e : cutI dl lo hi = dl := by
    unfold cutI
    rw [← dpa_len ha, hw.1, hw.2, Nat.sub_zero, List.drop_zero]
    exact List.take_of_length_le (by rw [dpa_len ha]; exact Nat.le_refl _)
  rw [e]
  exact Dq.tup hp ha
theorem rs_U {xs : List α} {lo hi : Option Int} : Rs K (rSlA K) (.da (dU f xs)) lo hi m (.da (dU f (cutI xs lo hi))) m := by
  have h := rs_T (K := K) (m := m) (dl := xs.map f) (lo := lo) (hi := hi)
  rw [cutI_map] at h
  exact h

/-! ### built-in functions -/
theorem rc_lenL {xs : List α} : Rc K (fun xs H Q => ∃ p ys, xs = [.ref p] ∧ (SqL K H p ys ∨ SqT K H p ys) ∧ Q (.int ys.length) H) [.da (dL f xs)] m (.da (dI xs.length)) m := Rc.of fun B H vs s dx Q q => by
  obtain ⟨v, rfl, d1⟩ := sda1 dx
  obtain ⟨p, ws, rfl, hp, ha⟩ := lst_of d1
  refine ⟨p, ws, rfl, .inl (SqL.of (s.ext _ _ hp)), ?_⟩
  rw [dpa_len ha, List.length_map]
  exact q _ (.int _)
theorem rc_lenU {xs : List α} : Rc K (fun xs H Q => ∃ p ys, xs = [.ref p] ∧ (SqL K H p ys ∨ SqT K H p ys) ∧ Q (.int ys.length) H) [.da (dU f xs)] m (.da (dI xs.length)) m := Rc.of fun B H vs s dx Q q => by
  obtain ⟨v, rfl, d1⟩ := sda1 dx
  obtain ⟨p, ws, rfl, hp, ha⟩ := tup_of d1
  refine ⟨p, ws, rfl, .inr (SqT.of (s.ext _ _ hp)), ?_⟩
  rw [dpa_len ha, List.length_map]
  exact q _ (.int _)
theorem rc_lenC {xs : List α} {l : Addr} (j : Nat) (hj : m[j]? = some (l, .ls (xs.map f))) : Rc K (fun xs H Q => ∃ p ys, xs = [.ref p] ∧ (SqL K H p ys ∨ SqT K H p ys) ∧ Q (.int ys.length) H) [.rf l] m (.da (dI xs.length)) m := Rc.of fun B H vs s dx Q q => by
  obtain ⟨v, rfl, d1⟩ := sda1 dx
  obtain ⟨ws, hp, ha⟩ := s.ls hj
  have e : v = .ref l := d1
  refine ⟨l, ws, by rw [e], .inl (SqL.of hp), ?_⟩
  rw [dpa_len ha, List.length_map]
  exact q _ (.int _)
theorem rc_lenSc {ns : List Int} {l : Addr} : Rc K (fun xs H Q => ∃ p ys, xs = [.ref p] ∧ (SqL K H p ys ∨ SqT K H p ys) ∧ Q (.int ys.length) H) [.sl l ns] m (.da (dI ns.length)) m := Rc.of fun B H vs s dx Q q => by
  obtain ⟨v, rfl, d1⟩ := sda1 dx
  have d1 : v = .ref l ∧ SqL K B l (ns.map V.int) := d1
  obtain ⟨e1, d2⟩ := d1
  have d3 : SqL K H l (ns.map V.int) := ex_l s.ext d2
  refine ⟨l, ns.map V.int, by rw [e1], Or.inl d3, ?_⟩
  have e2 : (ns.map V.int).length = ns.length := List.length_map _
  rw [e2]
  exact q _ (.int _)
theorem rc_abs {i : Int} : Rc K (fun xs H Q => ∃ i, xs = [.int i] ∧ Q (.int (if i < 0 then -i else i)) H) [.da (dI i)] m (.da (dI (absI i))) m := Rc.of fun B H vs s dx Q q => by
  obtain ⟨v, rfl, d1⟩ := sda1 dx
  exact ⟨i, by rw [int_of d1], q _ (.int _)⟩
theorem rc_max2 {i j : Int} : Rc K (fun xs H Q => ∃ i j, xs = [.int i, .int j] ∧ Q (.int (if j > i then j else i)) H) [.da (dI i), .da (dI j)] m (.da (dI (max2 i j))) m := Rc.of fun B H vs s dx Q q => by
  obtain ⟨v, w, rfl, d1, d2⟩ := sda2 dx
  exact ⟨i, j, by rw [int_of d1, int_of d2], q _ (.int _)⟩
theorem rc_min2 {i j : Int} : Rc K (fun xs H Q => ∃ i j, xs = [.int i, .int j] ∧ Q (.int (if j < i then j else i)) H) [.da (dI i), .da (dI j)] m (.da (dI (min2 i j))) m := Rc.of fun B H vs s dx Q q => by
  obtain ⟨v, w, rfl, d1, d2⟩ := sda2 dx
  exact ⟨i, j, by rw [int_of d1, int_of d2], q _ (.int _)⟩
theorem rc_intB {b : Bool} : Rc K (fun xs H Q => (∃ i, xs = [.int i] ∧ Q (.int i) H) ∨ ∃ k, xs = [.bl k] ∧ Q (.int (if k then 1 else 0)) H) [.da (dB b)] m (.da (dI (b2 b))) m := Rc.of fun B H vs s dx Q q => by
  obtain ⟨v, rfl, d1⟩ := sda1 dx
  exact .inr ⟨b, by rw [bl_of d1], q _ (.int _)⟩
theorem rc_sum {ns : List Int} : Rc K (rSum K) [.da (dL dI ns)] m (.da (dI ns.sum)) m := Rc.of fun B H vs s dx Q q => by
  obtain ⟨v, rfl, d1⟩ := sda1 dx
  obtain ⟨p, ws, rfl, hp, ha⟩ := lst_of d1
  have e := dqa_ints ha
  subst e
  exact ⟨p, ns, rfl, SqL.of (s.ext _ _ hp), q _ (.int _)⟩
theorem rc_all {bs : List Bool} : Rc K (rAll K) [.da (dL dB bs)] m (.da (dB (bs.all id))) m := Rc.of fun B H vs s dx Q q => by
  obtain ⟨v, rfl, d1⟩ := sda1 dx
  obtain ⟨p, ws, rfl, hp, ha⟩ := lst_of d1
  have e := dqa_bools ha
  subst e
  exact ⟨p, bs, rfl, SqL.of (s.ext _ _ hp), q _ (.bl _)⟩
theorem rc_any {bs : List Bool} : Rc K (rAny K) [.da (dL dB bs)] m (.da (dB (bs.any id))) m := Rc.of fun B H vs s dx Q q => by
  obtain ⟨v, rfl, d1⟩ := sda1 dx
  obtain ⟨p, ws, rfl, hp, ha⟩ := lst_of d1
  have e := dqa_bools ha
  subst e
  exact ⟨p, bs, rfl, SqL.of (s.ext _ _ hp), q _ (.bl _)⟩
/-- list(x), tuple(x): a new one -/
abbrev rListOf (K : PySem.W.Frag) : List V → Hp → VK → Prop := fun xs H Q => ∃ p ys, xs = [.ref p] ∧ (SqL K H p ys ∨ SqT K H p ys) ∧ ∀ l, H l = none → Q (.ref l) (upd H l (.lst ys))
abbrev rTupOf (K : PySem.W.Frag) : List V → Hp → VK → Prop := fun xs H Q => ∃ p ys, xs = [.ref p] ∧ ((SqL K H p ys ∧ ∀ l, H l = none → Q (.ref l) (upd H l (.tup ys))) ∨ (SqT K H p ys ∧ Q (.ref p) H))
theorem rc_listL {xs : List α} : Rc K (rListOf K) [.da (dL f xs)] m (.da (dL f xs)) m := fun B H vs s dx Q q => by
  obtain ⟨v, rfl, d1⟩ := sda1 dx
  obtain ⟨p, ws, rfl, hp, ha⟩ := lst_of d1
  exact ⟨p, ws, rfl, .inl (SqL.of (s.ext _ _ hp)), fun l hl => q _ _ _ (Tr.data s hl) (s.data hl) (Dq.lst upd_same (dpa_mono (Ex.new (fresh_b s hl)) ha))⟩
theorem rc_listU {xs : List α} : Rc K (rListOf K) [.da (dU f xs)] m (.da (dL f xs)) m := fun B H vs s dx Q q => by
  obtain ⟨v, rfl, d1⟩ := sda1 dx
  obtain ⟨p, ws, rfl, hp, ha⟩ := tup_of d1
  exact ⟨p, ws, rfl, .inr (SqT.of (s.ext _ _ hp)), fun l hl => q _ _ _ (Tr.data s hl) (s.data hl) (Dq.lst upd_same (dpa_mono (Ex.new (fresh_b s hl)) ha))⟩
theorem rn_listL {xs : List α} : RcN K (rListOf K) [.da (dL f xs)] m (.ls (xs.map f)) m := fun B H vs s dx Q q => by
  obtain ⟨v, rfl, d1⟩ := sda1 dx
  obtain ⟨p, ws, rfl, hp, ha⟩ := lst_of d1
  exact ⟨p, ws, rfl, .inl (SqL.of (s.ext _ _ hp)), fun l hl => q _ _ _ (Tr.cell s hl) (s.cell hl ha)⟩
theorem rc_listC {xs : List α} {l : Addr} (j : Nat) (hj : m[j]? = some (l, .ls (xs.map f))) : Rc K (rListOf K) [.rf l] m (.da (dL f xs)) m := fun B H vs s dx Q q => by
  obtain ⟨v, rfl, d1⟩ := sda1 dx
  obtain ⟨ws, hp, ha⟩ := s.ls hj
  have e : v = .ref l := d1
  exact ⟨l, ws, by rw [e], .inl (SqL.of hp), fun l hl => q _ _ _ (Tr.data s hl) (s.data hl) (Dq.lst upd_same (dpa_mono (Ex.new (fresh_b s hl)) ha))⟩
theorem rc_tupL {xs : List α} : Rc K (rTupOf K) [.da (dL f xs)] m (.da (dU f xs)) m := fun B H vs s dx Q q => by
  obtain ⟨v, rfl, d1⟩ := sda1 dx
  obtain ⟨p, ws, rfl, hp, ha⟩ := lst_of d1
  exact ⟨p, ws, rfl, .inl ⟨SqL.of (s.ext _ _ hp), fun l hl => q _ _ _ (Tr.data s hl) (s.data hl) (Dq.tup upd_same (dpa_mono (Ex.new (fresh_b s hl)) ha))⟩⟩
theorem rc_tupU {xs : List α} : Rc K (rTupOf K) [.da (dU f xs)] m (.da (dU f xs)) m := fun B H vs s dx Q q => by
  obtain ⟨v, rfl, d1⟩ := sda1 dx
  obtain ⟨p, ws, rfl, hp, ha⟩ := tup_of d1
  exact ⟨p, ws, rfl, .inr ⟨SqT.of (s.ext _ _ hp), q _ _ _ (Tr.refl _ _ _) s (Dq.tup hp ha)⟩⟩
end

/-! ### min, max, sorted of data -/
section
variable {X : Cx} {prog : Program} {w : World} {A : Around} {E : Value → Shared → Prop} {s : Shared}
theorem getD_some {α : Type} {l : List α} {i : Nat} {d x : α} (h : i < l.length) (e : l.getD i d = x) : l[i]? = some x := by
  rw [List.getD_eq_getElem?_getD, List.getElem?_eq_getElem h] at e
  rw [List.getElem?_eq_getElem h]
  exact congrArg some e
theorem min_ix {l : Addr} {vs : Array Value} {x : PyData} {xs : List PyData} {as : List Addr} {Q : Value → Shared → Prop} (hh : A.handled = none) (hl : s.heap.IsList l vs) (hr : ReadsAll s.heap vs.toList (x :: xs) as) (ha : PySem.W.AlikeAll (x :: xs)) (hu : A.units + 1 + PyData.depthAll (x :: xs) < cLine)
    (h : ∀ (i : Nat) v h' tk, vs[i]? = some v → (x :: xs)[i]? = some (PySem.W.minD x xs) → (∀ b o, s.heap.get? b = some o → h'.get? b = some o) → Q v { s with heap := h', toks := tk }) :
    wpAny (model prog w) A (call (.builtin "min") [.ref l]) Q E s := by
  have hn : vs.size = xs.length + 1 := PySem.W.readsAll_len hr
  refine PySem.call_min_walkH (PySem.W.iter_listW (A := A.in1) hh hl fun s₂ e W st hfp hw hk => ?_)
  refine ⟨_, _, _, _, _, _, _, s.heap, _, rfl, W, st, hfp, by omega, hw, hk, PySem.W.cmpIn_lt (A := A.in1) hr ha (by show A.units + 1 + _ < _; exact hu), fun v s' hP m => ?_⟩
  obtain ⟨h', tk, rfl, hk'⟩ := PySem.W.moved_old e rfl m
  have e1 : vs.size - 1 = xs.length := by omega
  obtain ⟨e3, e2⟩ := PySem.W.argBest_fold PySem.W.dataLt PyData.none x xs xs.length (Nat.le_refl _)
  rw [List.take_length] at e2
  rw [e1] at hP
  exact h _ v h' tk hP (getD_some (by rw [List.length_cons]; omega) e2) hk'
theorem max_ix {l : Addr} {vs : Array Value} {x : PyData} {xs : List PyData} {as : List Addr} {Q : Value → Shared → Prop} (hh : A.handled = none) (hl : s.heap.IsList l vs) (hr : ReadsAll s.heap vs.toList (x :: xs) as) (ha : PySem.W.AlikeAll (x :: xs)) (hu : A.units + 1 + PyData.depthAll (x :: xs) < cLine)
    (h : ∀ (i : Nat) v h' tk, vs[i]? = some v → (x :: xs)[i]? = some (PySem.W.maxD x xs) → (∀ b o, s.heap.get? b = some o → h'.get? b = some o) → Q v { s with heap := h', toks := tk }) :
    wpAny (model prog w) A (call (.builtin "max") [.ref l]) Q E s := by
  have hn : vs.size = xs.length + 1 := PySem.W.readsAll_len hr
  refine PySem.call_max_walkH (PySem.W.iter_listW (A := A.in1) hh hl fun s₂ e W st hfp hw hk => ?_)
  refine ⟨_, _, _, _, _, _, _, s.heap, _, rfl, W, st, hfp, by omega, hw, hk, PySem.W.cmpIn_gt (A := A.in1) hr ha (by show A.units + 1 + _ < _; exact hu), fun v s' hP m => ?_⟩
  obtain ⟨h', tk, rfl, hk'⟩ := PySem.W.moved_old e rfl m
  have e1 : vs.size - 1 = xs.length := by omega
  obtain ⟨e3, e2⟩ := PySem.W.argBest_fold (fun a b => PySem.W.dataLt b a) PyData.none x xs xs.length (Nat.le_refl _)
  rw [List.take_length] at e2
  rw [e1] at hP
  exact h _ v h' tk hP (getD_some (by rw [List.length_cons]; omega) e2) hk'
def rMinP (K : PySem.W.Frag) : List V → Hp → VK → Prop := fun vs H Q => ∃ (a : Addr) (xs : List V) (d : PyData) (ds : List PyData), vs = [V.ref a] ∧ SqL K H a xs ∧ DpAll K H xs (d :: ds) ∧ PySem.W.AlikeAll (d :: ds) ∧ PyData.depthAll (d :: ds) ≤ 60 ∧
  ∀ (i : Nat) v, xs[i]? = some v → (d :: ds)[i]? = some (PySem.W.minD d ds) → Q v H
def rMaxP (K : PySem.W.Frag) : List V → Hp → VK → Prop := fun vs H Q => ∃ (a : Addr) (xs : List V) (d : PyData) (ds : List PyData), vs = [V.ref a] ∧ SqL K H a xs ∧ DpAll K H xs (d :: ds) ∧ PySem.W.AlikeAll (d :: ds) ∧ PyData.depthAll (d :: ds) ≤ 60 ∧
  ∀ (i : Nat) v, xs[i]? = some v → (d :: ds)[i]? = some (PySem.W.maxD d ds) → Q v H
theorem vals_back : ∀ {xs : List V} {us : List Value} {i : Nat} {u : Value}, Vals xs us → us[i]? = some u → ∃ x, xs[i]? = some x ∧ RelV x u
  | _, _, _, _, .nil, e => by simp at e
  | _, _, 0, _, .cons r _, e => by
    have e' := Option.some.inj e
    subst e'
    exact ⟨_, rfl, r⟩
  | _, _, i + 1, x, .cons _ t, e => vals_back (i := i) t e
theorem cr_minP (hc : X.calm = true) (hu : X.A.units + 64 < cLine) : CallR X (.builtin "min") (rMinP X.K) := by
  intro pins s σ H vs us Q I r h
  obtain ⟨a, xs, d, ds, rfl, hs, hd, hal, hdp, q⟩ := h
  obtain ⟨its, rv, hl, _⟩ := I.list hs
  rw [Vals.ref1 r]
  obtain ⟨as, hr⟩ := Dp.readsAll I (d :: ds) xs its hd rv
  refine min_ix (I.ok.hd hc) hl.isList (by simpa using hr) hal (by omega) fun i v h' tk h1 h2 hk => ?_
  have h1' : its[i]? = some v := by simpa using h1
  obtain ⟨x, hx, rx⟩ := vals_back rv h1'
  exact ⟨x, H, I.kept hk, rx, q i x hx h2⟩
theorem cr_maxP (hc : X.calm = true) (hu : X.A.units + 64 < cLine) : CallR X (.builtin "max") (rMaxP X.K) := by
  intro pins s σ H vs us Q I r h
  obtain ⟨a, xs, d, ds, rfl, hs, hd, hal, hdp, q⟩ := h
  obtain ⟨its, rv, hl, _⟩ := I.list hs
  rw [Vals.ref1 r]
  obtain ⟨as, hr⟩ := Dp.readsAll I (d :: ds) xs its hd rv
  refine max_ix (I.ok.hd hc) hl.isList (by simpa using hr) hal (by omega) fun i v h' tk h1 h2 hk => ?_
  have h1' : its[i]? = some v := by simpa using h1
  obtain ⟨x, hx, rx⟩ := vals_back rv h1'
  exact ⟨x, H, I.kept hk, rx, q i x hx h2⟩
/-- sorted of data: P is what is known of the items -/
def rSrtP (K : PySem.W.Frag) : List V → Hp → VK → Prop := fun vs H Q => ∃ (a : Addr) (xs : List V) (ds : List PyData) (P : V → PyData → Prop), vs = [V.ref a] ∧ SqL K H a xs ∧ PySem.W.EachIs P xs ds ∧ (∀ x d, P x d → Dp K H x d) ∧ PySem.W.AllAlike ds ∧ PySem.W.Sortable ds ∧ (∀ d ∈ ds, d.depth ≤ 60) ∧
  ∀ ys p, PySem.W.EachIs P ys (ds.mergeSort (PySem.W.dataLe false id)) → H p = none → Q (.ref p) (upd H p (.lst ys))
theorem each_vals {P : V → PyData → Prop} : ∀ {xs : List V} {ds : List PyData} {its : List Value}, PySem.W.EachIs P xs ds → Vals xs its → PySem.W.EachIs (fun u d => ∃ x, RelV x u ∧ P x d) its ds
  | _, _, _, .nil, .nil => .nil
  | _, _, _, .cons h t, .cons r rs => .cons ⟨_, r, h⟩ (each_vals t rs)
theorem vals_each {P : V → PyData → Prop} : ∀ {ds : List PyData} {its : List Value}, PySem.W.EachIs (fun u d => ∃ x, RelV x u ∧ P x d) its ds → ∃ xs, Vals xs its ∧ PySem.W.EachIs P xs ds
  | _, _, .nil => ⟨[], .nil, .nil⟩
  | _, _, .cons ⟨x, r, h⟩ t => by
    obtain ⟨xs, h1, h2⟩ := vals_each t
    exact ⟨x :: xs, .cons r h1, .cons h h2⟩
theorem cr_srtP (hu : X.A.units + 64 < cLine) : CallR X (.builtin "sorted") (rSrtP X.K) := by
  intro pins s σ H vs us Q I r h
  obtain ⟨a, xs, ds, P, rfl, hs, hd, hP, hal, hsk, hdp, q⟩ := h
  obtain ⟨its, rv, hl, hz⟩ := I.list hs
  rw [Vals.ref1 r]
  have e := each_vals hd rv
  have hlen : ds.length = xs.length := hd.length.symm
  refine PySem.W.sorted_data (enc := id) (R := fun u d => ∃ x, RelV x u ∧ P x d) hl.isList e (e.mono fun u d ⟨x, rx, px⟩ => Dp.reads I d x u (hP x d px) rx) (by rw [List.map_id]; exact hal) (by rw [List.map_id]; exact hsk) (by rw [hlen]; exact hz) (fun d hd => by
    have := hdp d hd
    show X.A.units + 2 + d.depth < cLine
    omega) fun out ho he => ?_
  obtain ⟨ys, h1, h2⟩ := vals_each he
  obtain ⟨ep, he'⟩ := PyProof.Rows.sortedAll_at s.heap its out.toArray
  have hl2 : ys.length ≤ sizeLine := by
    rw [h1.length, ho, hlen]
    exact hz
  exact ⟨.ref _, upd H (s.heap.objs.size + 1) (.lst ys), I.laid (t' := s.toks) (fun _ _ => PyProof.Rows.sortedAll_old) (Nat.le_succ _) ⟨hl2, out, ep, h1, he'⟩, rfl, q ys _ h2 (I.hok.fresh (Nat.le_succ _))⟩
end

section
variable {K : PySem.W.Frag} {B H : Hp} {m m1 m' : M} {α β : Type} {f : α → PyData}
theorem depthAll_le [DecidableEq α] [Enc f] (xs : List α) (h : Enc.dep f ≤ 60) : PyData.depthAll (xs.map f) ≤ 60 := Nat.le_trans (depthAll_enc f xs) h
theorem alike_enc [DecidableEq α] [EncO f] (xs : List α) : PySem.W.AlikeAll (xs.map f) := by
  constructor
  · intro x hx y hy
    obtain ⟨a, _, rfl⟩ := List.mem_map.mp hx
    obtain ⟨b, _, rfl⟩ := List.mem_map.mp hy
    exact EncO.alike a b
  · intro x hx
    obtain ⟨a, _, rfl⟩ := List.mem_map.mp hx
    exact EncO.notNone a
theorem minD_enc [DecidableEq α] [EncO f] (x : α) : ∀ xs : List α, PySem.W.minD (f x) (xs.map f) = f (xs.foldl (fun a y => if EncO.lt f y a = true then y else a) x) := fun xs => by
  unfold PySem.W.minD
  induction xs generalizing x with
  | nil => rfl
  | cons y ys ih =>
    rw [List.map_cons, List.foldl_cons, List.foldl_cons, ← ih]
    (try dsimp only)
    rw [EncO.lt_eq y x]
    cases EncO.lt f y x <;> rfl
theorem maxD_enc [DecidableEq α] [EncO f] (x : α) : ∀ xs : List α, PySem.W.maxD (f x) (xs.map f) = f (xs.foldl (fun a y => if EncO.lt f a y = true then y else a) x) := fun xs => by
  unfold PySem.W.maxD
  induction xs generalizing x with
  | nil => rfl
  | cons y ys ih =>
    rw [List.map_cons, List.foldl_cons, List.foldl_cons, ← ih]
    (try dsimp only)
    rw [EncO.lt_eq x y]
    cases EncO.lt f x y <;> rfl
theorem dqa_ix {vs : List V} {dl : List PyData} {i : Nat} {d : PyData} {v : V} (h : DqAll B vs dl) (h1 : vs[i]? = some v) (h2 : dl[i]? = some d) : Dq B v d := by
  obtain ⟨w, e, q⟩ := dqa_get h h2
  rw [h1] at e
  rw [Option.some.inj e]
  exact q
theorem rc_min [DecidableEq α] [EncO f] {xs : List α} {x : α} (hd : Enc.dep f ≤ 60) (h : minL (EncO.lt f) xs = some x) : Rc K (rMinP K) [.da (dL f xs)] m (.da (f x)) m := Rc.of fun B H vs s dx Q q => by
  obtain ⟨v, rfl, d1⟩ := sda1 dx
  obtain ⟨p, ws, rfl, hp, ha⟩ := lst_of d1
  cases xs with
  | nil => cases h
  | cons y ys =>
    refine ⟨p, ws, f y, ys.map f, rfl, SqL.of (s.ext _ _ hp), (dpa_mono s.ext ha).dp, alike_enc (y :: ys), depthAll_le (y :: ys) hd, fun i v h1 h2 => q v ?_⟩
    rw [minD_enc] at h2
    rw [← Option.some.inj h]
    exact dqa_ix ha h1 h2
theorem rc_max [DecidableEq α] [EncO f] {xs : List α} {x : α} (hd : Enc.dep f ≤ 60) (h : maxL (EncO.lt f) xs = some x) : Rc K (rMaxP K) [.da (dL f xs)] m (.da (f x)) m := Rc.of fun B H vs s dx Q q => by
  obtain ⟨v, rfl, d1⟩ := sda1 dx
  obtain ⟨p, ws, rfl, hp, ha⟩ := lst_of d1
  cases xs with
  | nil => cases h
  | cons y ys =>
    refine ⟨p, ws, f y, ys.map f, rfl, SqL.of (s.ext _ _ hp), (dpa_mono s.ext ha).dp, alike_enc (y :: ys), depthAll_le (y :: ys) hd, fun i v h1 h2 => q v ?_⟩
    rw [maxD_enc] at h2
    rw [← Option.some.inj h]
    exact dqa_ix ha h1 h2
theorem dqa_each : ∀ {vs : List V} {dl : List PyData}, DqAll B vs dl → PySem.W.EachIs (Dq B) vs dl
  | _, _, .nil => .nil
  | _, _, .cons h t => .cons h (dqa_each t)
theorem each_dqa : ∀ {vs : List V} {dl : List PyData}, PySem.W.EachIs (Dq B) vs dl → DqAll B vs dl
  | _, _, .nil => .nil
  | _, _, .cons h t => .cons h (each_dqa t)
theorem srt_map [DecidableEq α] [EncO f] (xs : List α) : (xs.map f).mergeSort (PySem.W.dataLe false id) = (srt (EncO.lt f) xs).map f := by
  unfold srt
  refine (PySem.W.sort_maps f fun a _ b _ => ?_).symm
  show (!EncO.lt f b a) = (!PySem.W.dataLt (f b) (f a))
  rw [EncO.lt_eq]
theorem rc_srtAux [DecidableEq α] [EncO f] {xs : List α} (hd : Enc.dep f ≤ 60) (hs : PySem.W.Sortable (xs.map f)) {p : Addr} {ws : List V} (s : SOk K B m H) (hp : H p = some (.lst ws)) (ha : DqAll B ws (xs.map f)) (Q : VK)
    (q : ∀ ys p, DqAll B ys ((srt (EncO.lt f) xs).map f) → H p = none → Q (.ref p) (upd H p (.lst ys))) : rSrtP K [.ref p] H Q :=
  ⟨p, ws, xs.map f, Dq B, rfl, SqL.of hp, dqa_each ha, fun x d h => (dp_mono s.ext h).dp, (alike_enc xs).1, hs, fun d hd' => by
    obtain ⟨a, _, rfl⟩ := List.mem_map.mp hd'
    exact Nat.le_trans (Enc.dep_le a) hd, fun ys p h hp => q ys p (by rw [srt_map] at h; exact each_dqa h) hp⟩
/-- what can be sorted: tuples with an item, or no tuples -/
class SrtT (f : α → PyData) : Prop where
  tup : ∀ a, ∃ x r, f a = .tuple (x :: r)
class SrtO (f : α → PyData) : Prop where
  oth : ∀ a, f a ≠ .none ∧ ∀ xs, f a ≠ .tuple xs
class SrtOk (f : α → PyData) : Prop where
  ok : ∀ xs : List α, PySem.W.Sortable (xs.map f)
instance {β : Type} {g : β → PyData} : SrtOk (dP f g) := ⟨fun xs => .inl fun d hd => by
  obtain ⟨a, _, rfl⟩ := List.mem_map.mp hd
  exact ⟨_, _, rfl⟩⟩
instance {β γ : Type} {g : β → PyData} {h : γ → PyData} : SrtOk (d3 f g h) := ⟨fun xs => .inl fun d hd => by
  obtain ⟨a, _, rfl⟩ := List.mem_map.mp hd
  exact ⟨_, _, rfl⟩⟩
instance : SrtOk dI := ⟨fun xs => .inr fun d hd => by
  obtain ⟨a, _, rfl⟩ := List.mem_map.mp hd
  exact ⟨fun e => (by cases e), fun _ e => (by cases e)⟩⟩
instance : SrtOk dS := ⟨fun xs => .inr fun d hd => by
  obtain ⟨a, _, rfl⟩ := List.mem_map.mp hd
  exact ⟨fun e => (by cases e), fun _ e => (by cases e)⟩⟩
instance : SrtOk (dL f) := ⟨fun xs => .inr fun d hd => by
  obtain ⟨a, _, rfl⟩ := List.mem_map.mp hd
  exact ⟨fun e => (by cases e), fun _ e => (by cases e)⟩⟩
def srtU (lt : List α → List α → Bool) (xs : List (List α)) : Option (List (List α)) := if xs.all (fun x => !x.isEmpty) = true then some (srt lt xs) else none
theorem srtU_some {lt : List α → List α → Bool} {xs ys : List (List α)} (h : srtU lt xs = some ys) : PySem.W.Sortable (xs.map (dU f)) ∧ srt lt xs = ys := by
  unfold srtU at h
  split at h
  · refine ⟨.inl fun d hd => ?_, Option.some.inj h⟩
    obtain ⟨a, ha, rfl⟩ := List.mem_map.mp hd
    have h1 := List.all_eq_true.mp ‹_› a ha
    cases a with
    | nil => cases h1
    | cons x r => exact ⟨_, _, rfl⟩
  · cases h
theorem rc_srt [DecidableEq α] [EncO f] [SrtOk f] {xs : List α} (hd : Enc.dep f ≤ 60) : Rc K (rSrtP K) [.da (dL f xs)] m (.da (dL f (srt (EncO.lt f) xs))) m := fun B H vs s dx Q q => by
  obtain ⟨v, rfl, d1⟩ := sda1 dx
  obtain ⟨p, ws, rfl, hp, ha⟩ := lst_of d1
  exact rc_srtAux hd (SrtOk.ok xs) s (s.ext _ _ hp) ha Q fun ys p h hp => q _ _ _ (Tr.data s hp) (s.data hp) (Dq.lst upd_same (dpa_mono (Ex.new (fresh_b s hp)) h))
theorem rc_srtC [DecidableEq α] [EncO f] [SrtOk f] {xs : List α} {l : Addr} (hd : Enc.dep f ≤ 60) (j : Nat) (hj : m[j]? = some (l, .ls (xs.map f))) : Rc K (rSrtP K) [.rf l] m (.da (dL f (srt (EncO.lt f) xs))) m := fun B H vs s dx Q q => by
  obtain ⟨v, rfl, d1⟩ := sda1 dx
  obtain ⟨ws, hp, ha⟩ := s.ls hj
  have e : v = .ref l := d1
  rw [e]
  exact rc_srtAux hd (SrtOk.ok xs) s hp ha Q fun ys p h hp => q _ _ _ (Tr.data s hp) (s.data hp) (Dq.lst upd_same (dpa_mono (Ex.new (fresh_b s hp)) h))
theorem rc_srtU [DecidableEq α] [EncO f] {xs ys : List (List α)} (hd : Enc.dep (dU f) ≤ 60) (h : srtU (EncO.lt (dU f)) xs = some ys) : Rc K (rSrtP K) [.da (dL (dU f) xs)] m (.da (dL (dU f) ys)) m := fun B H vs s dx Q q => by
  obtain ⟨v, rfl, d1⟩ := sda1 dx
  obtain ⟨p, ws, rfl, hp, ha⟩ := lst_of d1
  obtain ⟨h1, rfl⟩ := srtU_some (f := f) h
  exact rc_srtAux hd h1 s (s.ext _ _ hp) ha Q fun ys p h hp => q _ _ _ (Tr.data s hp) (s.data hp) (Dq.lst upd_same (dpa_mono (Ex.new (fresh_b s hp)) h))

/-! ### lists: +, append, extend, stores, pop -/
theorem rr_cat {xs ys : List α} (hz : lenG (xs.length + ys.length) = some ()) : Rr K rCat (.da (dL f xs)) (.da (dL f ys)) m (.da (dL f (xs ++ ys))) m := fun B H x y s dx dy Q q => by
  obtain ⟨p, vs, rfl, hp, ha⟩ := lst_of dx
  obtain ⟨p2, vs2, rfl, hp2, ha2⟩ := lst_of dy
  have h1 := dpa_len ha
  have h2 := dpa_len ha2
  have h3 := lenG_some hz
  rw [List.length_map] at h1 h2
  refine ⟨p, p2, vs, vs2, rfl, rfl, s.ext _ _ hp, s.ext _ _ hp2, by rw [sizeLine_eq]; omega, fun l hl => q _ _ _ (Tr.data s hl) (s.data hl) (Dq.lst upd_same (dpa_mono (Ex.new (fresh_b s hl)) ?_))⟩
  rw [List.map_append]
  exact dqa_app ha ha2
theorem rm_app {xs : List α} {x : α} {l : Addr} (j : Nat) (hj : m[j]? = some (l, .ls (xs.map f))) (hz : lenG xs.length = some ()) : Rm K rAppend (.rf l) [.da (f x)] m (.da .none) (m.set j (l, .ls ((xs ++ [x]).map f))) := fun B H v vs s dx da Q q => by
  obtain ⟨y, rfl, d1⟩ := sda1 da
  obtain ⟨ws, hp, ha⟩ := s.ls hj
  have h1 := dpa_len ha
  have h3 := lenG_some hz
  rw [List.length_map] at h1
  refine ⟨l, ws, y, dx, rfl, hp, by rw [sizeLine_eq]; omega, q _ _ _ (Tr.put s hj ?_) (s.put hj ?_) .non⟩
  all_goals
    rw [List.map_append]
    exact dqa_app ha (.cons d1 .nil)
theorem rm_ext {xs ys : List α} {l : Addr} (j : Nat) (hj : m[j]? = some (l, .ls (xs.map f))) (hz : lenG (xs.length + ys.length) = some ()) : Rm K rExtend (.rf l) [.da (dL f ys)] m (.da .none) (m.set j (l, .ls ((xs ++ ys).map f))) := fun B H v vs s dx da Q q => by
  obtain ⟨y, rfl, d1⟩ := sda1 da
  obtain ⟨ws, hp, ha⟩ := s.ls hj
  obtain ⟨p2, vs2, rfl, hp2, ha2⟩ := lst_of d1
  have h1 := dpa_len ha
  have h2 := dpa_len ha2
  have h3 := lenG_some hz
  rw [List.length_map] at h1 h2
  refine ⟨l, p2, ws, vs2, dx, rfl, hp, s.ext _ _ hp2, by rw [sizeLine_eq]; omega, q _ _ _ (Tr.put s hj ?_) (s.put hj ?_) .non⟩
  all_goals
    rw [List.map_append]
    exact dqa_app ha ha2
end
end FC
set_option maxHeartbeats 400000
/-! FT: what is walked (Src), comprehensions, statements (Wp), loops. -/
namespace FC
open PySem PySem.Spec PyProof.Rows L2 Evl

/-! ### what is walked -/
/-- the slots js alone are stored -/
def Sets (js : List Nat) (σ σ2 : L2.St) : Prop := σ2.length = σ.length ∧ ∀ i, i ∉ js → σ2[i]? = σ[i]?
/-- J walks the items, a target g stores them; while B1 stands and G holds of the cells -/
def Turns (K : PySem.W.Frag) {α : Type} (J : It) (g : TG) (B1 : Hp) (G : M → Prop) (items : List α) (up : α → List SD → List SD) (js : List Nat) : Prop :=
  (∀ i H B' m', i < items.length → Ex B1 B' → G m' → SOk K B' m' H → J.go i H) ∧
  (∀ H B' m', Ex B1 B' → G m' → SOk K B' m' H → J.stop items.length H) ∧
  (∀ i a x H H' B' m' ds σ, items[i]? = some a → Ex B1 B' → G m' → SOk K B' m' H → StOk K B' ds σ → J.yld i H x H' →
    ∀ Q : L2.St → Hp → Prop, (∀ B'' σ2, Tr B' H (keys m') B'' H' (keys m') → SOk K B'' m' H' → StOk K B'' (up a ds) σ2 → Sets js σ σ2 → Q σ2 H') → g x σ H' Q)
def Src (K : PySem.W.Frag) {α : Type} (wi : TI) (g : TG) (ds : List SD) (m m1 : M) (G : M → Prop) (items : List α) (up : α → List SD → List SD) (js : List Nat) : Prop :=
  ∀ B H σ, SOk K B m H → StOk K B ds σ → ∀ R : It → Hp → Prop, (∀ J B1 H1, Tr B H (keys m) B1 H1 (keys m1) → SOk K B1 m1 H1 → Turns K J g B1 G items up js → R J H1) → wi σ H R

section
variable {K : PySem.W.Frag} {B H : Hp} {ds : List SD} {m m1 m2 m' : M} {α β : Type} {f : α → PyData} {f2 : β → PyData} {tl te : TE} {ta : TA} {G : M → Prop}
theorem st_len : ∀ {ds : List SD} {σ : L2.St}, StOk K B ds σ → σ.length = ds.length
  | [], [], _ => rfl
  | _ :: _, _ :: _, h => congrArg (· + 1) (st_len h.2)
  | [], _ :: _, h => h.elim
  | _ :: _, [], h => h.elim
theorem sets1 {σ : L2.St} {j : Nat} {o : Option V} : Sets [j] σ (σ.set j o) := ⟨List.length_set, fun i h => by
  rw [List.getElem?_set_ne (fun e => h (by rw [e]; exact List.mem_singleton.mpr rfl))]⟩
theorem Sets.trans {σ σ1 σ2 : L2.St} {js ks : List Nat} (a : Sets js σ σ1) (b : Sets ks σ1 σ2) : Sets (js ++ ks) σ σ2 := ⟨b.1.trans a.1, fun i h => by
  rw [List.mem_append, not_or] at h
  exact (b.2 i h.2).trans (a.2 i h.1)⟩
/-- a target that is a name, a datum -/
theorem tg_name {x : V} {d : PyData} {j : Nat} {σ : L2.St} {B' : Hp} (s : SOk K B' m' H) (st : StOk K B' ds σ) (hx : Dq B' x d) (Q : L2.St → Hp → Prop)
    (q : ∀ B'' σ2, Tr B' H (keys m') B'' H (keys m') → SOk K B'' m' H → StOk K B'' (ds.set j (.da d)) σ2 → Sets [j] σ σ2 → Q σ2 H) : gName j x σ H Q :=
  q B' _ (Tr.refl _ _ _) s (st_set j st (sl_of (s := .da d) hx)) sets1
theorem dqa_some : ∀ {vs : List V} {xs : List α} {i : Nat} {a : α}, DqAll B vs (xs.map f) → xs[i]? = some a → ∃ v, vs[i]? = some v ∧ Dq B v (f a) := fun h e => dqa_get h (by rw [List.getElem?_map, e]; rfl)
theorem turns_list {B1 : Hp} {a : Addr} {vs : List V} {xs : List α} {j : Nat} (hL : ∀ H B' m', Ex B1 B' → G m' → SOk K B' m' H → SqL K H a vs) (hd : DqAll B1 vs (xs.map f)) :
    Turns K (Itl K a) (gName j) B1 G xs (fun x ds => ds.set j (.da (f x))) [j] := by
  have hl := dpa_len hd
  rw [List.length_map] at hl
  refine ⟨fun i H B' m' hi e g s => ?_, fun H B' m' e g s => ⟨vs, hL H B' m' e g s, Nat.le_of_eq hl⟩, fun i x v H H' B' m' ds σ hx e g s st hy Q q => ?_⟩
  · have hi' : i < vs.length := by omega
    exact ⟨vs, vs[i], hL H B' m' e g s, List.getElem?_eq_getElem hi'⟩
  · obtain ⟨rfl, y2⟩ := hy
    obtain ⟨w, h1, h2⟩ := dqa_some hd hx
    have h3 := y2 vs (hL H' B' m' e g s)
    rw [h1] at h3
    rw [← Option.some.inj h3]
    exact tg_name s st (dp_mono e h2) Q q
theorem src_L {xs : List α} {j : Nat} (h : Ev K tl ds m (.da (dL f xs)) m1) : Src K (iList K tl) (gName j) ds m m1 (fun _ => True) xs (fun x ds => ds.set j (.da (f x))) [j] := fun B H σ s st R q => h B H σ s st _ fun v B1 H1 t1 s1 d1 => by
  obtain ⟨p, vs, rfl, hp, ha⟩ := lst_of d1
  exact ⟨p, rfl, ⟨vs, SqL.of (s1.ext _ _ hp)⟩, q _ B1 H1 t1 s1 (turns_list (fun H B' m' e _ s => SqL.of (s.ext _ _ (e _ _ hp))) ha)⟩
/-- a cell that the loop leaves as it is -/
theorem src_C {xs : List α} {j : Nat} {l : Addr} (i : Nat) (h : Ev K tl ds m (.rf l) m1) (hj : m1[i]? = some (l, .ls (xs.map f))) : Src K (iList K tl) (gName j) ds m m1 (fun m' => m'[i]? = some (l, .ls (xs.map f))) xs (fun x ds => ds.set j (.da (f x))) [j] := fun B H σ s st R q => h B H σ s st _ fun v B1 H1 t1 s1 d1 => by
  have e : v = .ref l := d1
  subst e
  obtain ⟨vs, hp, ha⟩ := s1.ls hj
  refine ⟨l, rfl, ⟨vs, SqL.of hp⟩, q _ B1 H1 t1 s1 ?_⟩
  have hl := dpa_len ha
  rw [List.length_map] at hl
  refine ⟨fun i H B' m' hi e g s => ?_, fun H B' m' e g s => ?_, fun i x v H H' B' m' ds σ hx e g s st hy Q q => ?_⟩
  · obtain ⟨ws, h1, h2⟩ := s.ls g
    have hl2 := dpa_len h2
    rw [List.length_map] at hl2
    have hi' : i < ws.length := by omega
    exact ⟨ws, ws[i], SqL.of h1, List.getElem?_eq_getElem hi'⟩
  · obtain ⟨ws, h1, h2⟩ := s.ls g
    have hl2 := dpa_len h2
    rw [List.length_map] at hl2
    exact ⟨ws, SqL.of h1, Nat.le_of_eq hl2⟩
  · obtain ⟨rfl, y2⟩ := hy
    obtain ⟨ws, h1, h2⟩ := s.ls g
    obtain ⟨w, h3, h4⟩ := dqa_some h2 hx
    have h5 := y2 ws (SqL.of h1)
    rw [h3] at h5
    rw [← Option.some.inj h5]
    exact tg_name s st h4 Q q
theorem src_U {xs : List α} {j : Nat} (h : Ev K tl ds m (.da (dU f xs)) m1) : Src K (iTup K tl) (gName j) ds m m1 (fun _ => True) xs (fun x ds => ds.set j (.da (f x))) [j] := fun B H σ s st R q => h B H σ s st _ fun v B1 H1 t1 s1 d1 => by
  obtain ⟨p, vs, rfl, hp, ha⟩ := tup_of d1
  have hl := dpa_len ha
  rw [List.length_map] at hl
  have hL : ∀ {H B' m'}, Ex B1 B' → SOk K B' m' H → SqT K H p vs := fun e s => SqT.of (s.ext _ _ (e _ _ hp))
  refine ⟨p, rfl, ⟨vs, SqT.of (s1.ext _ _ hp)⟩, q _ B1 H1 t1 s1 ⟨fun i H B' m' hi e g s => ?_, fun H B' m' e g s => ⟨vs, hL e s, Nat.le_of_eq hl⟩, fun i x v H H' B' m' ds σ hx e g s st hy Q q => ?_⟩⟩
  · have hi' : i < vs.length := by omega
    exact ⟨vs, vs[i], hL e s, List.getElem?_eq_getElem hi'⟩
  · obtain ⟨rfl, y2⟩ := hy
    obtain ⟨w, h1, h2⟩ := dqa_some ha hx
    have h3 := y2 vs (hL e s)
    rw [h1] at h3
    rw [← Option.some.inj h3]
    exact tg_name s st (dp_mono e h2) Q q
theorem ints_of1 {vs : List V} {i : Int} (h : SdAll K B [.da (dI i)] vs) : vs = [.int i] := by
  obtain ⟨v, rfl, d⟩ := sda1 h
  rw [int_of d]
theorem ints_of2 {vs : List V} {i j : Int} (h : SdAll K B [.da (dI i), .da (dI j)] vs) : vs = [.int i, .int j] := by
  obtain ⟨v, w, rfl, d, e⟩ := sda2 h
  rw [int_of d, int_of e]
theorem turns_rng {B1 : Hp} {lo : Int} {n : Nat} {j : Nat} : Turns K (Itr lo n) (gName j) B1 G ((List.range n).map fun (i : Nat) => lo + (i : Int)) (fun x ds => ds.set j (.da (dI x))) [j] := by
  refine ⟨fun i H B' m' hi e g s => ?_, fun H B' m' e g s => ?_, fun i x v H H' B' m' ds σ hx e g s st hy Q q => ?_⟩
  · rw [List.length_map, List.length_range] at hi
    exact hi
  · rw [List.length_map, List.length_range]
    exact Nat.le_refl _
  · obtain ⟨rfl, rfl⟩ := hy
    rw [List.getElem?_map, Option.map_eq_some_iff] at hx
    obtain ⟨k, h1, h2⟩ := hx
    obtain ⟨h3, h4⟩ := List.getElem?_eq_some_iff.mp h1
    rw [List.getElem_range] at h4
    subst h4 h2
    exact tg_name s st (.int _) Q q
theorem src_R1 {b : Int} {xs : List Int} {j : Nat} (h : EvA K ta ds m [.da (dI b)] m1) (hx : rngG 0 b = some xs) : Src K (iRng1 ta) (gName j) ds m m1 (fun _ => True) xs (fun x ds => ds.set j (.da (dI x))) [j] := fun B H σ s st R q => h B H σ s st _ fun vs B1 H1 t1 s1 d1 => by
  obtain ⟨⟨_, _, h3, h4⟩, rfl⟩ := rngG_some hx
  refine ⟨b, ints_of1 d1, h3, h4, q _ B1 H1 t1 s1 ?_⟩
  unfold rng
  rw [Int.sub_zero]
  exact turns_rng
theorem src_R2 {a b : Int} {xs : List Int} {j : Nat} (h : EvA K ta ds m [.da (dI a), .da (dI b)] m1) (hx : rngG a b = some xs) : Src K (iRng2 ta) (gName j) ds m m1 (fun _ => True) xs (fun x ds => ds.set j (.da (dI x))) [j] := fun B H σ s st R q => h B H σ s st _ fun vs B1 H1 t1 s1 d1 => by
  obtain ⟨h1, rfl⟩ := rngG_some hx
  exact ⟨a, b, ints_of2 d1, h1, q _ B1 H1 t1 s1 turns_rng⟩
/-- two names for a new pair -/
theorem tg_pair {x y : V} {d e : PyData} {j k : Nat} {σ : L2.St} {B' : Hp} {T : Addr} (s : SOk K B' m' H) (st : StOk K B' ds σ) (hx : Dq B' x d) (hy : Dq B' y e) (hT : H T = none) (Q : L2.St → Hp → Prop)
    (q : ∀ B'' σ2, Tr B' H (keys m') B'' (upd H T (.tup [x, y])) (keys m') → SOk K B'' m' (upd H T (.tup [x, y])) → StOk K B'' ((ds.set j (.da d)).set k (.da e)) σ2 → Sets ([j] ++ [k]) σ σ2 → Q σ2 (upd H T (.tup [x, y]))) :
    gTup K 2 (gCons (gName j) (gCons (gName k) gNil)) (.ref T) σ (upd H T (.tup [x, y])) Q := by
  have hB := fresh_b s hT
  refine ⟨T, [x, y], rfl, SqT.of upd_same, rfl, x, [y], rfl, y, [], rfl, rfl, ?_⟩
  refine q (upd B' T (.tup [x, y])) _ (Tr.data s hT) (s.data hT) ?_ (sets1.trans sets1)
  have ee := Ex.new (o := .tup [x, y]) hB
  exact st_set k (st_set j (st_mono ee st) (sl_of (s := .da d) (dp_mono ee hx))) (sl_of (s := .da e) (dp_mono ee hy))
theorem src_E {xs : List α} {j k : Nat} (h : EvA K ta ds m [.da (dL f xs)] m1) : Src K (iEnum K ta) (gTup K 2 (gCons (gName j) (gCons (gName k) gNil))) ds m m1 (fun _ => True) ((xs.zipIdx).map fun p => ((p.2 : Int), p.1)) (fun p ds => (ds.set j (.da (dI p.1))).set k (.da (f p.2))) ([j] ++ [k]) := fun B H σ s st R q => h B H σ s st _ fun vs B1 H1 t1 s1 d1 => by
  obtain ⟨v, rfl, d⟩ := sda1 d1
  obtain ⟨p, vs, rfl, hp, ha⟩ := lst_of d
  have hl := dpa_len ha
  rw [List.length_map] at hl
  have hL : ∀ {H B' m'}, Ex B1 B' → SOk K B' m' H → SqL K H p vs := fun e s => SqL.of (s.ext _ _ (e _ _ hp))
  refine ⟨p, vs, rfl, SqL.of (s1.ext _ _ hp), q _ B1 H1 t1 s1 ⟨fun i H B' m' hi e g s => ?_, fun H B' m' e g s => ⟨vs, hL e s, ?_⟩, fun i x v H H' B' m' ds σ hx e g s st hy Q q => ?_⟩⟩
  · rw [List.length_map, List.length_zipIdx] at hi
    have hi' : i < vs.length := by omega
    exact ⟨vs, vs[i], hL e s, List.getElem?_eq_getElem hi'⟩
  · rw [List.length_map, List.length_zipIdx]
    exact Nat.le_of_eq hl
  · obtain ⟨T, w, rfl, hT, rfl, y2⟩ := hy
    rw [List.getElem?_map, Option.map_eq_some_iff] at hx
    obtain ⟨pr, h1, h2⟩ := hx
    rw [List.getElem?_zipIdx, Option.map_eq_some_iff] at h1
    obtain ⟨a, h3, h4⟩ := h1
    obtain ⟨w', h5, h6⟩ := dqa_some ha h3
    have h7 := y2 vs (hL e s)
    rw [h5] at h7
    have e7 := Option.some.inj h7
    subst e7 h4 h2
    refine tg_pair s st ?_ (dp_mono e h6) hT Q q
    show Dq B' (.int (i : Nat)) (.int (((0 + i : Nat)) : Int))
    rw [Nat.zero_add]
    exact .int _
theorem zip_some {xs : List α} {ys : List β} {i : Nat} {p : α × β} (h : (xs.zip ys)[i]? = some p) : xs[i]? = some p.1 ∧ ys[i]? = some p.2 := by
  rw [List.getElem?_zip_eq_some] at h
  exact h
theorem src_ZL {xs : List α} {ys : List β} {j k : Nat} (h : EvA K ta ds m [.da (dL f xs), .da (dL f2 ys)] m1) : Src K (RZ.iZipA K ta) (gTup K 2 (gCons (gName j) (gCons (gName k) gNil))) ds m m1 (fun _ => True) (xs.zip ys) (fun p ds => (ds.set j (.da (f p.1))).set k (.da (f2 p.2))) ([j] ++ [k]) := fun B H σ s st R q => h B H σ s st _ fun vs B1 H1 t1 s1 d1 => by
  obtain ⟨v, w, rfl, d, d'⟩ := sda2 d1
  obtain ⟨p, vs, rfl, hp, ha⟩ := lst_of d
  obtain ⟨p2, vs2, rfl, hp2, ha2⟩ := lst_of d'
  have hl := dpa_len ha
  have hl2 := dpa_len ha2
  rw [List.length_map] at hl hl2
  have hL : ∀ {H B' m'}, Ex B1 B' → SOk K B' m' H → SqL K H p vs := fun e s => SqL.of (s.ext _ _ (e _ _ hp))
  have hL2 : ∀ {H B' m'}, Ex B1 B' → SOk K B' m' H → SqL K H p2 vs2 := fun e s => SqL.of (s.ext _ _ (e _ _ hp2))
  refine ⟨p, p2, vs, vs2, rfl, Or.inl ⟨SqL.of (s1.ext _ _ hp), SqL.of (s1.ext _ _ hp2), q _ B1 H1 t1 s1 ⟨fun i H B' m' hi e g s => ?_, fun H B' m' e g s => ⟨vs, vs2, hL e s, hL2 e s, ?_⟩, fun i x v H H' B' m' ds σ hx e g s st hy Q q => ?_⟩⟩⟩
  · rw [List.length_zip] at hi
    have hi' : i < vs.length := by omega
    have hi2 : i < vs2.length := by omega
    exact ⟨vs, vs2, vs[i], vs2[i], hL e s, hL2 e s, List.getElem?_eq_getElem hi', List.getElem?_eq_getElem hi2⟩
  · rw [List.length_zip]
    omega
  · obtain ⟨T, u, u2, rfl, hT, rfl, y1, y2⟩ := hy
    obtain ⟨h1, h2⟩ := zip_some hx
    obtain ⟨w1, h3, h4⟩ := dqa_some ha h1
    obtain ⟨w2, h5, h6⟩ := dqa_some ha2 h2
    have h7 := y1 vs (hL e s)
    have h8 := y2 vs2 (hL2 e s)
    rw [h3] at h7
    rw [h5] at h8
    have e7 := Option.some.inj h7
    have e8 := Option.some.inj h8
    subst e7 e8
    exact tg_pair s st (dp_mono e h4) (dp_mono e h6) hT Q q
theorem src_ZU {xs : List α} {ys : List β} {j k : Nat} (h : EvA K ta ds m [.da (dU f xs), .da (dU f2 ys)] m1) : Src K (RZ.iZipA K ta) (gTup K 2 (gCons (gName j) (gCons (gName k) gNil))) ds m m1 (fun _ => True) (xs.zip ys) (fun p ds => (ds.set j (.da (f p.1))).set k (.da (f2 p.2))) ([j] ++ [k]) := fun B H σ s st R q => h B H σ s st _ fun vs B1 H1 t1 s1 d1 => by
  obtain ⟨v, w, rfl, d, d'⟩ := sda2 d1
  obtain ⟨p, vs, rfl, hp, ha⟩ := tup_of d
  obtain ⟨p2, vs2, rfl, hp2, ha2⟩ := tup_of d'
  have hl := dpa_len ha
  have hl2 := dpa_len ha2
  rw [List.length_map] at hl hl2
  have hL : ∀ {H B' m'}, Ex B1 B' → SOk K B' m' H → SqT K H p vs := fun e s => SqT.of (s.ext _ _ (e _ _ hp))
  have hL2 : ∀ {H B' m'}, Ex B1 B' → SOk K B' m' H → SqT K H p2 vs2 := fun e s => SqT.of (s.ext _ _ (e _ _ hp2))
  refine ⟨p, p2, vs, vs2, rfl, Or.inr ⟨SqT.of (s1.ext _ _ hp), SqT.of (s1.ext _ _ hp2), q _ B1 H1 t1 s1 ⟨fun i H B' m' hi e g s => ?_, fun H B' m' e g s => ⟨vs, vs2, hL e s, hL2 e s, ?_⟩, fun i x v H H' B' m' ds σ hx e g s st hy Q q => ?_⟩⟩⟩
  · rw [List.length_zip] at hi
    have hi' : i < vs.length := by omega
    have hi2 : i < vs2.length := by omega
    exact ⟨vs, vs2, vs[i], vs2[i], hL e s, hL2 e s, List.getElem?_eq_getElem hi', List.getElem?_eq_getElem hi2⟩
  · rw [List.length_zip]
    omega
  · obtain ⟨T, u, u2, rfl, hT, rfl, y1, y2⟩ := hy
    obtain ⟨h1, h2⟩ := zip_some hx
    obtain ⟨w1, h3, h4⟩ := dqa_some ha h1
    obtain ⟨w2, h5, h6⟩ := dqa_some ha2 h2
    have h7 := y1 vs (hL e s)
    have h8 := y2 vs2 (hL2 e s)
    rw [h3] at h7
    rw [h5] at h8
    have e7 := Option.some.inj h7
    have e8 := Option.some.inj h8
    subst e7 e8
    exact tg_pair s st (dp_mono e h4) (dp_mono e h6) hT Q q
/-- a list of pairs walked, unpacked -/
theorem src_LP {xs : List (α × β)} {j k : Nat} (h : Ev K tl ds m (.da (dL (dP f f2) xs)) m1) : Src K (iList K tl) (gTup K 2 (gCons (gName j) (gCons (gName k) gNil))) ds m m1 (fun _ => True) xs (fun p ds => (ds.set j (.da (f p.1))).set k (.da (f2 p.2))) ([j] ++ [k]) := fun B H σ s st R q => h B H σ s st _ fun v B1 H1 t1 s1 d1 => by
  obtain ⟨p, vs, rfl, hp, ha⟩ := lst_of d1
  have hl := dpa_len ha
  rw [List.length_map] at hl
  have hL : ∀ {H B' m'}, Ex B1 B' → SOk K B' m' H → SqL K H p vs := fun e s => SqL.of (s.ext _ _ (e _ _ hp))
  refine ⟨p, rfl, ⟨vs, SqL.of (s1.ext _ _ hp)⟩, q _ B1 H1 t1 s1 ⟨fun i H B' m' hi e g s => ?_, fun H B' m' e g s => ⟨vs, hL e s, Nat.le_of_eq hl⟩, fun i x v H H' B' m' ds σ hx e g s st hy Q q => ?_⟩⟩
  · have hi' : i < vs.length := by omega
    exact ⟨vs, vs[i], hL e s, List.getElem?_eq_getElem hi'⟩
  · obtain ⟨rfl, y2⟩ := hy
    obtain ⟨w, h1, h2⟩ := dqa_some ha hx
    have h3 := y2 vs (hL e s)
    rw [h1] at h3
    have e3 := Option.some.inj h3
    subst e3
    obtain ⟨T, x1, x2, rfl, h4, h5, h6⟩ := pair_of (K := K) (show SdOk K B1 (.da (dP f f2 x)) w from h2)
    refine ⟨T, [x1, x2], rfl, SqT.of (s.ext _ _ (e _ _ h4)), rfl, x1, [x2], rfl, x2, [], rfl, rfl, ?_⟩
    exact q B' _ (Tr.refl _ _ _) s (st_set k (st_set j st (sl_of (s := .da (f x.1)) (dp_mono e h5))) (sl_of (s := .da (f2 x.2)) (dp_mono e h6))) (sets1.trans sets1)
end

/-! ### comprehensions -/
section
variable {α β S : Type}
/-- [e for x in xs]: each element in turn, a state goes along -/
def mapS (step : S → α → Option (β × S)) : S → List α → Option (List β × S)
  | s, [] => some ([], s)
  | s, x :: xs => (step s x).bind fun p => (mapS step p.2 xs).bind fun q => some (p.1 :: q.1, q.2)
def mapO (step : α → Option β) : List α → Option (List β)
  | [] => some []
  | x :: xs => (step x).bind fun y => (mapO step xs).bind fun ys => some (y :: ys)
/-- with a test -/
def filO (test : α → Option Bool) (step : α → Option β) : List α → Option (List β)
  | [] => some []
  | x :: xs => (test x).bind fun b => cond b ((step x).bind fun y => (filO test step xs).bind fun ys => some (y :: ys)) (filO test step xs)
end
section
variable {K : PySem.W.Frag} {B H : Hp} {ds : List SD} {m m1 m2 m' : M} {α β S : Type} {f : α → PyData} {f2 : β → PyData} {te : TE} {tt : TT} {wi : TI} {g : TG} {G : M → Prop}
def wipeD (ds : List SD) : List Nat → List SD
  | [] => ds
  | v :: vs => (wipeD ds vs).set v .un
theorem st_wipe {σ : L2.St} (h : StOk K B ds σ) : ∀ vs : List Nat, StOk K B (wipeD ds vs) (wipe σ vs)
  | [] => h
  | v :: vs => st_set v (st_wipe h vs) (show SlOk K B .un none from True.intro)
theorem wipe_get (σ : L2.St) : ∀ (vs : List Nat) (i : Nat), (wipe σ vs)[i]? = if i ∈ vs ∧ i < σ.length then some none else σ[i]?
  | [], i => by simp [wipe]
  | v :: vs, i => by
    show ((wipe σ vs).set v none)[i]? = _
    by_cases e : v = i
    · subst e
      by_cases h : v < σ.length
      · rw [List.getElem?_set_self (by rw [wipe_length]; exact h), if_pos ⟨List.mem_cons_self, h⟩]
      · rw [List.getElem?_eq_none (by rw [List.length_set, wipe_length]; omega), if_neg (fun z => h z.2), List.getElem?_eq_none (by omega)]
    · rw [List.getElem?_set_ne e, wipe_get σ vs i]
      have : (i ∈ v :: vs ∧ i < σ.length) ↔ (i ∈ vs ∧ i < σ.length) := by
        rw [List.mem_cons]
        exact ⟨fun z => ⟨z.1.resolve_left (fun q => e q.symm), z.2⟩, fun z => ⟨.inr z.1, z.2⟩⟩
      simp only [this]
theorem wipe_sets {σ σ2 : L2.St} {js vs : List Nat} (h : Sets js (wipe σ vs) σ2) (hs : ∀ j ∈ js, j ∈ vs) : wipe σ2 vs = wipe σ vs := by
  have hl : σ2.length = σ.length := h.1.trans (wipe_length σ vs)
  refine List.ext_getElem? fun i => ?_
  rw [wipe_get σ2, wipe_get σ, hl]
  by_cases hi : i ∈ vs ∧ i < σ.length
  · rw [if_pos hi, if_pos hi]
  · rw [if_neg hi, if_neg hi]
    by_cases hv : i ∈ vs
    · have h2 : ¬ i < σ.length := fun z => hi ⟨hv, z⟩
      rw [List.getElem?_eq_none (by omega), List.getElem?_eq_none (by omega)]
    · rw [h.2 i (fun z => hv (hs i z)), wipe_get, if_neg hi]
/-- the general form: the elements go one by one, the cells mF s with the state -/
theorem ev_lcCore {items : List α} {up : α → List SD → List SD} {js vs : List Nat} (mF : S → M) (test : α → Bool) (step : S → α → β → S → Prop)
    (hs : Src K wi g ds m m1 G items up js) (hjs : ∀ j ∈ js, j ∈ vs) (hG : ∀ s c, G (mF s ++ c)) (hn : items.length ≤ 16000000)
    (body : ∀ s x, x ∈ items → EvT K tt (up x (wipeD ds vs)) (mF s) (test x) (mF s) ∧ (test x = true → ∀ y s', step s x y s' → Ev K te (up x (wipeD ds vs)) (mF s) (.da (f2 y)) (mF s')))
    (run : S → List α → List β → S → Prop) (h0 : ∀ s xs ys sN, run s xs ys sN → match xs with
      | [] => ys = [] ∧ sN = s
      | x :: r => (test x = true → ∃ y ys' s', ys = y :: ys' ∧ step s x y s' ∧ run s' r ys' sN) ∧ (test x = false → run s r ys sN))
    {s0 sN : S} {out : List β} (hm : m1 = mF s0) (hr : run s0 items out sN) :
    ∀ B H σ, SOk K B m H → StOk K B ds σ → ∀ Q : VK, (∀ p B2 H2, Tr B H (keys m) B2 H2 (keys (mF sN ++ [(p, .ls (out.map f2))])) → SOk K B2 (mF sN ++ [(p, .ls (out.map f2))]) H2 → H p = none → Q (.ref p) H2) → tLc wi g tt te vs σ H Q := by
  intro B H σ s st Q q
  subst hm
  refine hs B H σ s st _ fun J B1 H1 t1 s1 T D hD => ?_
  -- W: what is made so far, what is left
  refine ⟨fun i k H' => k = items.length - i ∧ i ≤ items.length ∧ ∃ B' st' done left, out = done ++ left ∧ done.length ≤ i ∧ run st' (items.drop i) left sN ∧ Tr B H (keys m) B' H' (keys (mF st' ++ [(D, .ls (done.map f2))])) ∧ Ex B1 B' ∧ SOk K B' (mF st' ++ [(D, .ls (done.map f2))]) H',
    ⟨items.length, by simp, Nat.zero_le _, B1, s0, [], out, rfl, Nat.zero_le _, hr, t1.trans (Tr.cell s1 hD), Ex.refl _, s1.cell hD (show CdOk K B1 (.ls (([] : List β).map f2)) (.lst []) from DqAll.nil)⟩, ?_⟩
  rintro i k H' ⟨rfl, hi, B', st', done, left, eo, hdl, hrun, tr, eB, sk⟩
  by_cases hlt : i < items.length
  · refine .inr ⟨T.1 i H' B' _ hlt eB (hG _ _) sk, fun H'' => i + 1 ≤ items.length ∧ ∃ B' st' done left, out = done ++ left ∧ done.length ≤ i + 1 ∧ run st' (items.drop (i + 1)) left sN ∧ Tr B H (keys m) B' H'' (keys (mF st' ++ [(D, .ls (done.map f2))])) ∧ Ex B1 B' ∧ SOk K B' (mF st' ++ [(D, .ls (done.map f2))]) H'',
      fun H'' p => ⟨items.length - (i + 1), by omega, rfl, p⟩, fun x H'' hy => ?_⟩
    have hx : items[i]? = some items[i] := List.getElem?_eq_getElem hlt
    have hmem : items[i] ∈ items := List.getElem_mem hlt
    have hdrop : items.drop i = items[i] :: items.drop (i + 1) := List.drop_eq_getElem_cons hlt
    have hr2 := h0 _ _ _ _ hrun
    rw [hdrop] at hr2
    obtain ⟨hrt, hrf⟩ := hr2
    obtain ⟨bt, be⟩ := body st' items[i] hmem
    refine T.2.2 i items[i] x H' H'' B' _ (wipeD ds vs) (wipe σ vs) hx eB (hG _ _) sk (st_wipe (st_mono (t1.ex.trans eB) st) vs) hy _ fun B2 σ2 t2 s2 st2 hset => ⟨wipe_sets hset hjs, ?_⟩
    refine (bt.frame [(D, .ls (done.map f2))]) B2 H'' σ2 s2 st2 _ fun B3 H3 t3 s3 => ?_
    cases hb : test items[i] with
    | false =>
      refine iteF ⟨hlt, B3, st', done, left, eo, Nat.le_succ_of_le hdl, hrf hb, (tr.trans t2).trans t3, (eB.trans t2.ex).trans t3.ex, s3⟩
    | true =>
      obtain ⟨y, ys', s', el, hstep, hrest⟩ := hrt hb
      refine iteT (((be hb y s' hstep).frame [(D, .ls (done.map f2))]) B3 H3 σ2 s3 (st_mono t3.ex st2) _ fun v B4 H4 t4 s4 d4 => ?_)
      have hjD : (mF s' ++ [(D, CD.ls (done.map f2))])[(mF s').length]? = some (D, .ls (done.map f2)) := by
        rw [List.getElem?_append_right (Nat.le_refl _), Nat.sub_self]
        rfl
      obtain ⟨ws, hw, hwa⟩ := s4.ls hjD
      have hwl := dpa_len hwa
      rw [List.length_map] at hwl
      have hset2 : (mF s' ++ [(D, CD.ls (done.map f2))]).set (mF s').length (D, .ls ((done ++ [y]).map f2)) = mF s' ++ [(D, .ls ((done ++ [y]).map f2))] := by
        rw [List.set_append_right _ _ (Nat.le_refl _), Nat.sub_self]
        rfl
      have hcd : CdOk K B4 (.ls ((done ++ [y]).map f2)) (.lst (ws ++ [v])) := by
        rw [List.map_append]
        exact dqa_app hwa (.cons d4 .nil)
      have t5 := Tr.put s4 hjD hcd
      have s5 := s4.put hjD hcd
      rw [hset2] at t5 s5
      refine ⟨ws, hw, by rw [sizeLine_eq]; omega, hlt, B4, s', done ++ [y], ys', by rw [eo, el, List.append_assoc]; rfl, by rw [List.length_append, List.length_singleton]; omega, hrest, (((tr.trans t2).trans t3).trans t4).trans t5, ((eB.trans t2.ex).trans t3.ex).trans t4.ex, s5⟩
  · have e : i = items.length := by omega
    subst e
    refine .inl ⟨T.2.1 H' B' _ eB (hG _ _) sk, ?_⟩
    have hr2 := h0 _ _ _ _ hrun
    rw [List.drop_length] at hr2
    obtain ⟨rfl, rfl⟩ := hr2
    rw [List.append_nil] at eo
    subst eo
    exact q D B' H' tr sk (by
      cases hh : H D with
      | none => rfl
      | some o => exact absurd hD (t1.grow D (some_ne hh)))
/-- its end: the list a cell, or frozen -/
theorem lc_end {out : List β} {mN : M} (h : ∀ B H σ, SOk K B m H → StOk K B ds σ → ∀ Q : VK, (∀ p B2 H2, Tr B H (keys m) B2 H2 (keys (mN ++ [(p, .ls (out.map f2))])) → SOk K B2 (mN ++ [(p, .ls (out.map f2))]) H2 → H p = none → Q (.ref p) H2) → te σ H Q) : Ev K te ds m (.da (dL f2 out)) mN := fun B H σ s st Q q => h B H σ s st Q fun p B2 H2 t s2 hp => by
  have hj : (mN ++ [(p, CD.ls (out.map f2))])[mN.length]? = some (p, .ls (out.map f2)) := by
    rw [List.getElem?_append_right (Nat.le_refl _), Nat.sub_self]
    rfl
  obtain ⟨ws, h1, h2⟩ := s2.ls hj
  have he : (mN ++ [(p, CD.ls (out.map f2))]).eraseIdx mN.length = mN := by
    rw [List.eraseIdx_append_of_length_le (Nat.le_refl _), Nat.sub_self]
    exact List.append_nil _
  have hB2 : B2 p = none := s2.out (p, .ls (out.map f2)) (List.mem_append_right _ (List.mem_singleton.mpr rfl))
  have t3 := t.frz s2 (fun a ha => by
    obtain ⟨c, hc, e⟩ := List.mem_map.mp ha
    rw [← e]
    exact s.ne hc) (o := .lst ws) hj (fresh_k s hp)
  have s3 := s2.frz hj h1
  rw [he] at t3 s3
  exact q _ _ _ t3 s3 (Dq.lst upd_same (dpa_mono (Ex.new hB2) h2))
theorem en_end {out : List β} {mN : M} (h : ∀ B H σ, SOk K B m H → StOk K B ds σ → ∀ Q : VK, (∀ p B2 H2, Tr B H (keys m) B2 H2 (keys (mN ++ [(p, .ls (out.map f2))])) → SOk K B2 (mN ++ [(p, .ls (out.map f2))]) H2 → H p = none → Q (.ref p) H2) → te σ H Q) : EvN K te ds m (.ls (out.map f2)) mN := fun B H σ s st Q q => h B H σ s st Q fun p B2 H2 t s2 _ => q p B2 H2 t s2

theorem et_yes : EvT K tYes ds m true m := fun B H σ s st Q q => q B H (Tr.refl _ _ _) s
theorem mapO_run {step : α → Option β} {items : List α} : ∀ (s : Unit) (xs : List α) (ys : List β) (sN : Unit), mapO step xs = some ys → match xs with
      | [] => ys = [] ∧ sN = s
      | x :: r => (true = true → ∃ y ys' s', ys = y :: ys' ∧ step x = some y ∧ mapO step r = some ys' ∧ s' = ()) ∧ (true = false → mapO step r = some ys)
  | _, [], ys, _, h => ⟨(Option.some.inj h).symm, rfl⟩
  | _, x :: r, ys, _, h => by
    obtain ⟨y, h1, h⟩ := bindS h
    obtain ⟨ys', h2, h⟩ := bindS h
    exact ⟨fun _ => ⟨y, ys', (), (Option.some.inj h).symm, h1, h2, rfl⟩, fun z => nomatch z⟩
/-- no test, no cells changed -/
theorem lc_map {items : List α} {up : α → List SD → List SD} {js vs : List Nat} {step : α → Option β} {out : List β} (hs : Src K wi g ds m m1 G items up js) (hjs : ∀ j ∈ js, j ∈ vs) (hG : ∀ c, G (m1 ++ c)) (hn : lenG items.length = some ())
    (h : mapO step items = some out) (body : ∀ x y, x ∈ items → step x = some y → Ev K te (up x (wipeD ds vs)) m1 (.da (f2 y)) m1) :
    ∀ B H σ, SOk K B m H → StOk K B ds σ → ∀ Q : VK, (∀ p B2 H2, Tr B H (keys m) B2 H2 (keys (m1 ++ [(p, .ls (out.map f2))])) → SOk K B2 (m1 ++ [(p, .ls (out.map f2))]) H2 → H p = none → Q (.ref p) H2) → tLc wi g tYes te vs σ H Q :=
  ev_lcCore (S := Unit) (fun _ => m1) (fun _ => true) (fun _ x y _ => step x = some y) hs hjs (fun _ => hG) (lenG_some hn) (fun _ x hx => ⟨et_yes, fun _ y _ hy => body x y hx hy⟩)
    (fun _ xs ys _ => mapO step xs = some ys) (fun s xs ys sN hr => by
      have hh := mapO_run (items := items) s xs ys sN hr
      cases xs with
      | nil => exact hh
      | cons x r => exact ⟨fun z => by
          obtain ⟨y, ys', s', h1, h2, h3, _⟩ := hh.1 z
          exact ⟨y, ys', s', h1, h2, h3⟩, fun z => nomatch z⟩) (s0 := ()) (sN := ()) rfl h
/-- a test -/
theorem lc_fil {items : List α} {up : α → List SD → List SD} {js vs : List Nat} {test : α → Bool} {step : α → Option β} {out : List β} (hs : Src K wi g ds m m1 G items up js) (hjs : ∀ j ∈ js, j ∈ vs) (hG : ∀ c, G (m1 ++ c)) (hn : lenG items.length = some ())
    (h : filO (fun x => some (test x)) step items = some out) (bt : ∀ x, x ∈ items → EvT K tt (up x (wipeD ds vs)) m1 (test x) m1) (body : ∀ x y, x ∈ items → test x = true → step x = some y → Ev K te (up x (wipeD ds vs)) m1 (.da (f2 y)) m1) :
    ∀ B H σ, SOk K B m H → StOk K B ds σ → ∀ Q : VK, (∀ p B2 H2, Tr B H (keys m) B2 H2 (keys (m1 ++ [(p, .ls (out.map f2))])) → SOk K B2 (m1 ++ [(p, .ls (out.map f2))]) H2 → H p = none → Q (.ref p) H2) → tLc wi g tt te vs σ H Q :=
  ev_lcCore (S := Unit) (fun _ => m1) test (fun _ x y _ => step x = some y) hs hjs (fun _ => hG) (lenG_some hn) (fun _ x hx => ⟨bt x hx, fun hb y _ hy => body x y hx hb hy⟩)
    (fun _ xs ys _ => filO (fun x => some (test x)) step xs = some ys) (fun s xs ys sN hr => by
      cases xs with
      | nil => exact ⟨(Option.some.inj hr).symm, rfl⟩
      | cons x r =>
        obtain ⟨b, h1, h2⟩ := bindS hr
        have e := Option.some.inj h1
        subst e
        refine ⟨fun z => ?_, fun z => ?_⟩
        · rw [z] at h2
          obtain ⟨y, h3, h2⟩ := bindS h2
          obtain ⟨ys', h4, h2⟩ := bindS h2
          exact ⟨y, ys', (), (Option.some.inj h2).symm, h3, h4⟩
        · rw [z] at h2
          exact h2) (s0 := ()) (sN := ()) rfl h
/-- no test, a state in the cells -/
theorem lc_mapS {items : List α} {up : α → List SD → List SD} {js vs : List Nat} (mF : S → M) {step : S → α → Option (β × S)} {s0 sN : S} {out : List β} (hs : Src K wi g ds m m1 G items up js) (hm : m1 = mF s0) (hjs : ∀ j ∈ js, j ∈ vs) (hG : ∀ s c, G (mF s ++ c)) (hn : lenG items.length = some ())
    (h : mapS step s0 items = some (out, sN)) (body : ∀ s x y s', x ∈ items → step s x = some (y, s') → Ev K te (up x (wipeD ds vs)) (mF s) (.da (f2 y)) (mF s')) :
    ∀ B H σ, SOk K B m H → StOk K B ds σ → ∀ Q : VK, (∀ p B2 H2, Tr B H (keys m) B2 H2 (keys (mF sN ++ [(p, .ls (out.map f2))])) → SOk K B2 (mF sN ++ [(p, .ls (out.map f2))]) H2 → H p = none → Q (.ref p) H2) → tLc wi g tYes te vs σ H Q :=
  ev_lcCore mF (fun _ => true) (fun s x y s' => step s x = some (y, s')) hs hjs hG (lenG_some hn) (fun s x hx => ⟨et_yes, fun _ y s' hy => body s x y s' hx hy⟩)
    (fun s xs ys sN => mapS step s xs = some (ys, sN)) (fun s xs ys sN hr => by
      cases xs with
      | nil =>
        have e := Option.some.inj hr
        injection e with e1 e2
        exact ⟨e1.symm, e2.symm⟩
      | cons x r =>
        obtain ⟨p, h1, h2⟩ := bindS hr
        obtain ⟨q, h3, h2⟩ := bindS h2
        have e := Option.some.inj h2
        injection e with e1 e2
        subst e1 e2
        exact ⟨fun _ => ⟨p.1, q.1, p.2, rfl, h1, h3⟩, fun z => nomatch z⟩) hm h
end
end FC
set_option maxHeartbeats 400000
/-! FU: statements, loops, dicts. -/
namespace FC
open PySem PySem.Spec PyProof.Rows L2 Evl

/-- where a def's body started -/
structure Fx where
  K : PySem.W.Frag
  B0 : Hp
  H0 : Hp
  k0 : List Addr
  hk : ∀ a ∈ k0, H0 a ≠ none
  lo : Hp
abbrev Fx.at (F : Fx) (lo : Hp) : Fx := { F with lo := lo }
def At (F : Fx) (ds : List SD) (m : M) : L2.St → Hp → Prop := fun σ H => ∃ B, StOk F.K B ds σ ∧ SOk F.K B m H ∧ Tr F.B0 F.H0 F.k0 B H (keys m) ∧ Ex F.lo B
def Wp (F : Fx) (ts : TS) (D : Ends) (ds : List SD) (m : M) : Prop := ∀ σ H, At F ds m σ H → ts D σ H
/-- what is wanted where the def hands back -/
def Fin (F : Fx) (D : Ends) (R : SD → M → Prop) : Prop := ∀ v B H r m2, R r m2 → Tr F.B0 F.H0 F.k0 B H (keys m2) → SOk F.K B m2 H → SdOk F.K B r v → D.rt v H

section
variable {F : Fx} {D : Ends} {ds ds' es : List SD} {m m1 m2 m' : M} {te ta tb tv : TE} {tu tz tw ts : TS} {tt : TT} {r : SD} {R : SD → M → Prop} {α β γ S : Type} {f : α → PyData} {g : β → PyData} {h : γ → PyData}
theorem wp_weak (w : Wks ds es) (k : Wp F ts D es m) : Wp F ts D ds m := fun σ H ⟨B, st, s, t, lo⟩ => k σ H ⟨B, w.st st, s, t, lo⟩
theorem at_weak {σ : L2.St} {H : Hp} (w : Wks ds es) (a : At F ds m σ H) : At F es m σ H := by
  obtain ⟨B, st, s, t, lo⟩ := a
  exact ⟨B, w.st st, s, t, lo⟩
theorem wp_asg {i : Nat} (h : Ev F.K te ds m r m1) (k : Wp F tz D (ds.set i r) m1) : Wp F (tSeq (tAsg te (gName i)) tz) D ds m := fun σ H ⟨B, st, s, t, lo⟩ =>
  h B H σ s st _ fun v B2 H2 t2 s2 d => k _ H2 ⟨B2, st_set i (st_mono t2.ex st) (sl_of d), s2, t.trans t2, lo.trans t2.ex⟩
theorem wp_asgN {i : Nat} {c : CD} (h : EvN F.K te ds m c m1) (k : ∀ p, p ∉ F.k0 → Wp F tz D (ds.set i (.rf p)) (m1 ++ [(p, c)])) (hm : keys m1 = keys m) : Wp F (tSeq (tAsg te (gName i)) tz) D ds m := fun σ H ⟨B, st, s, t, lo⟩ =>
  h B H σ s st _ fun p B2 H2 t2 s2 => by
    have hp : H p = none := by
      have h1 : p ∈ keys (m1 ++ [(p, c)]) := by rw [keys_app]; exact List.mem_append_right _ (List.mem_singleton.mpr rfl)
      refine (t2.kys p h1).resolve_left fun z => ?_
      have nd := s2.nd
      rw [keys_app] at nd
      exact (List.nodup_append.mp nd).2.2 p (by rw [hm]; exact z) p (List.mem_singleton.mpr rfl) rfl
    refine k p (fun z => ?_) _ H2 ⟨B2, st_set i (st_mono t2.ex st) (sl_of (s := .rf p) rfl), s2, t.trans t2, lo.trans t2.ex⟩
    exact absurd hp (t.grow p (F.hk p z))
theorem wp_expr (h : Ev F.K te ds m r m1) (k : Wp F tz D ds m1) : Wp F (tSeq (tDrop te) tz) D ds m := fun σ H ⟨B, st, s, t, lo⟩ =>
  h B H σ s st _ fun v B2 H2 t2 s2 d => k _ H2 ⟨B2, st_mono t2.ex st, s2, t.trans t2, lo.trans t2.ex⟩
theorem wp_if {b : Bool} (h : EvT F.K tt ds m b m1) (h1 : b = true → Wp F tu { D with nx := tz D } ds m1) (h2 : b = false → Wp F tw { D with nx := tz D } ds m1) : Wp F (tSeq (tIfS tt tu tw) tz) D ds m := fun σ H ⟨B, st, s, t, lo⟩ =>
  h B H σ s st _ fun B2 H2 t2 s2 => by
    cases b with
    | true => exact iteT (h1 rfl σ H2 ⟨B2, st_mono t2.ex st, s2, t.trans t2, lo.trans t2.ex⟩)
    | false => exact iteF (h2 rfl σ H2 ⟨B2, st_mono t2.ex st, s2, t.trans t2, lo.trans t2.ex⟩)
theorem wp_cut (k : Wp F tz D ds' m') (h : Wp F tu { D with nx := At F ds' m' } ds m) : Wp F (tCut tu tz) D ds m := fun σ H a => ⟨At F ds' m', h σ H a, k⟩
theorem wp_cutIf {b : Bool} (k : Wp F tz D ds' m') (h : EvT F.K tt ds m b m1) (h1 : b = true → Wp F tu { D with nx := At F ds' m' } ds m1) (h2 : b = false → Wp F tw { D with nx := At F ds' m' } ds m1) : Wp F (tCut (tIfS tt tu tw) tz) D ds m :=
  wp_cut (ds' := ds') (m' := m') k fun σ H ⟨B, st, s, t, lo⟩ => h B H σ s st _ fun B2 H2 t2 s2 => by
    cases b with
    | true => exact iteT (h1 rfl σ H2 ⟨B2, st_mono t2.ex st, s2, t.trans t2, lo.trans t2.ex⟩)
    | false => exact iteF (h2 rfl σ H2 ⟨B2, st_mono t2.ex st, s2, t.trans t2, lo.trans t2.ex⟩)
theorem wp_next (h : ∀ σ H, At F ds m σ H → D.nx σ H) : Wp F tNext D ds m := h
theorem wp_nextW (w : Wks ds es) (e : D.nx = At F es m) : Wp F tNext D ds m := fun σ H a => by
  show D.nx σ H
  rw [e]
  exact at_weak w a
theorem wp_ret {D' : Ends} (h : Ev F.K te ds m r m1) (hf : Fin F D R) (hr : R r m1) : Wp F (tSeq (tRet te) tz) D ds m := fun σ H ⟨B, st, s, t, lo⟩ =>
  h B H σ s st _ fun v B2 H2 t2 s2 d => hf v B2 H2 r m1 hr (t.trans t2) s2 d
theorem wp_retN (hf : Fin F D R) (hr : R (.da .none) m) : Wp F (tSeq tRetN tz) D ds m := fun σ H ⟨B, st, s, t, lo⟩ => hf _ B H _ m hr t s .non
theorem wp_break (h : ∀ σ H, At F ds m σ H → D.bk σ H) : Wp F (tSeq tBreak tz) D ds m := h
theorem wp_cont (h : ∀ σ H, At F ds m σ H → D.ct σ H) : Wp F (tSeq tCont tz) D ds m := h
/-- x += e of ints -/
theorem wp_aug {i : Nat} {a b : Int} {fi : Int → Int → Int} (hx : ds[i]? = some (.da (dI a))) (h : Ev F.K te ds m (.da (dI b)) m1) (k : Wp F tz D (ds.set i (.da (dI (fi a b)))) m1) : Wp F (tSeq (tAug i te (ipI fi)) tz) D ds m := fun σ H ⟨B, st, s, t, lo⟩ => by
  obtain ⟨o, e, w⟩ := st_get st hx
  obtain ⟨v, rfl, w⟩ := sl_some (s := .da (dI a)) (fun z => nomatch z) w
  refine ⟨v, e, h B H σ s st _ fun v2 B2 H2 t2 s2 d => ⟨a, b, int_of (K := F.K) (show SdOk F.K B (.da (dI a)) v from w), int_of d, ?_⟩⟩
  exact k _ H2 ⟨B2, st_set i (st_mono t2.ex st) (sl_of (s := .da (dI (fi a b))) (.int _)), s2, t.trans t2, lo.trans t2.ex⟩
/-- a, b = a pair -/
theorem wp_unp2 {i j : Nat} {p : α × β} (h : Ev F.K te ds m (.da (dP f g p)) m1) (k : Wp F tz D ((ds.set i (.da (f p.1))).set j (.da (g p.2))) m1) : Wp F (tSeq (tAsg te (gTup F.K 2 (gCons (gName i) (gCons (gName j) gNil)))) tz) D ds m := fun σ H ⟨B, st, s, t, lo⟩ =>
  h B H σ s st _ fun v B2 H2 t2 s2 d => by
    obtain ⟨T, x1, x2, rfl, h4, h5, h6⟩ := pair_of d
    refine ⟨T, [x1, x2], rfl, SqT.of (s2.ext _ _ h4), rfl, x1, [x2], rfl, x2, [], rfl, rfl, ?_⟩
    exact k _ H2 ⟨B2, st_set j (st_set i (st_mono t2.ex st) (sl_of (s := .da (f p.1)) h5)) (sl_of (s := .da (g p.2)) h6), s2, t.trans t2, lo.trans t2.ex⟩
/-- a, b, c = a triple -/
theorem wp_unp3 {i j l : Nat} {p : α × β × γ} (hh : Ev F.K te ds m (.da (d3 f g h p)) m1) (k : Wp F tz D (((ds.set i (.da (f p.1))).set j (.da (g p.2.1))).set l (.da (h p.2.2))) m1) : Wp F (tSeq (tAsg te (gTup F.K 3 (gCons (gName i) (gCons (gName j) (gCons (gName l) gNil))))) tz) D ds m := fun σ H ⟨B, st, s, t, lo⟩ =>
  hh B H σ s st _ fun v B2 H2 t2 s2 d => by
    obtain ⟨T, vs, rfl, h4, h5⟩ := dq_tuple (show SdOk F.K B2 (.da (.tuple [f p.1, g p.2.1, h p.2.2])) v from d)
    cases h5 with
    | cons a1 r1 =>
      cases r1 with
      | cons a2 r2 =>
        cases r2 with
        | cons a3 r3 =>
          cases r3
          refine ⟨T, _, rfl, SqT.of (s2.ext _ _ h4), rfl, _, _, rfl, _, _, rfl, _, _, rfl, rfl, ?_⟩
          exact k _ H2 ⟨B2, st_set l (st_set j (st_set i (st_mono t2.ex st) (sl_of (s := .da (f p.1)) a1)) (sl_of (s := .da (g p.2.1)) a2)) (sl_of (s := .da (h p.2.2)) a3), s2, t.trans t2, lo.trans t2.ex⟩
/-- a list of known length unpacked to two names -/
theorem wp_unpL2 {i j : Nat} {xs : List α} {a b : α} (hh : Ev F.K te ds m (.da (dL f xs)) m1) (hx : xs = [a, b]) (k : Wp F tz D ((ds.set i (.da (f a))).set j (.da (f b))) m1) : Wp F (tSeq (tAsg te (gUnl F.K 2 (gCons (gName i) (gCons (gName j) gNil)))) tz) D ds m := fun σ H ⟨B, st, s, t, lo⟩ =>
  hh B H σ s st _ fun v B2 H2 t2 s2 d => by
    obtain ⟨T, vs, rfl, h4, h5⟩ := lst_of d
    subst hx
    cases h5 with
    | cons a1 r1 =>
      cases r1 with
      | cons a2 r2 =>
        cases r2
        refine ⟨T, _, rfl, SqL.of (s2.ext _ _ h4), rfl, _, _, rfl, _, _, rfl, rfl, ?_⟩
        exact k _ H2 ⟨B2, st_set j (st_set i (st_mono t2.ex st) (sl_of (s := .da (f a)) a1)) (sl_of (s := .da (f b)) a2), s2, t.trans t2, lo.trans t2.ex⟩
/-- a, b = e1, e2 -/
theorem wp_par {i j : Nat} {ta : TA} {a b : SD} (h : EvA F.K ta ds m [a, b] m1) (k : Wp F tz D ((ds.set i a).set j b) m1) : Wp F (tSeq (tPar i j ta) tz) D ds m := fun σ H ⟨B, st, s, t, lo⟩ =>
  h B H σ s st _ fun vs B2 H2 t2 s2 d => by
    obtain ⟨v, w, rfl, d1, d2⟩ := sda2 d
    exact ⟨v, w, rfl, k _ H2 ⟨B2, st_set j (st_set i (st_mono t2.ex st) (sl_of d1)) (sl_of d2), s2, t.trans t2, lo.trans t2.ex⟩⟩
/-- a new cell, told as data from now on -/
theorem wp_frz {i j : Nat} {l : Addr} {dl : List PyData} (hi : ds[i]? = some (.rf l)) (hj : m[j]? = some (l, .ls dl)) (hl : l ∉ F.k0) (k : Wp F ts D (ds.set i (.da (.list dl))) (m.eraseIdx j)) : Wp F ts D ds m := fun σ H ⟨B, st, s, t, lo⟩ => by
  obtain ⟨vs, h1, h2⟩ := s.ls hj
  have hB : B l = none := s.out (l, .ls dl) (List.mem_of_getElem? hj)
  obtain ⟨o, e, w⟩ := st_get st hi
  obtain ⟨v, rfl, w⟩ := sl_some (s := .rf l) (fun z => nomatch z) w
  have ev : v = .ref l := w
  subst ev
  have ee := Ex.new (o := .lst vs) hB
  have st2 := st_set (K := F.K) i (st_mono ee st) (s := .da (.list dl)) (o := some (.ref l)) (Dq.lst upd_same (dpa_mono ee h2))
  rw [set_same e] at st2
  exact k σ H ⟨_, st2, s.frz hj h1, t.frz s F.hk hj hl, lo.trans ee⟩
/-- a cell that is needed no more -/
theorem wp_drop (j : Nat) (k : Wp F ts D ds (m.eraseIdx j)) : Wp F ts D ds m := fun σ H ⟨B, st, s, t, lo⟩ =>
  k σ H ⟨B, st, s.sub (List.eraseIdx_sublist m j), t.sub (fun a z => ((List.eraseIdx_sublist m j).map _).subset z), lo⟩
/-- x[i] = e, x a cell -/
theorem wp_setL {xs ys : List α} {x : α} {i : Int} {l : Addr} (j : Nat) (hv : Ev F.K tv ds m (.da (f x)) m1) (ho : Ev F.K ta ds m1 (.rf l) m2) (hi : Ev F.K tb ds m2 (.da (dI i)) m') (hj : m'[j]? = some (l, .ls (xs.map f))) (hs : setI xs i x = some ys)
    (k : Wp F tz D ds (m'.set j (l, .ls (ys.map f)))) : Wp F (tSeq (tAsg tv (gSub ta tb rSetL)) tz) D ds m := fun σ H ⟨B, st, s, t, lo⟩ =>
  hv B H σ s st _ fun v B1 H1 t1 s1 d1 => ho B1 H1 σ s1 (st_mono t1.ex st) _ fun o B2 H2 t2 s2 d2 => hi B2 H2 σ s2 (st_mono (t1.ex.trans t2.ex) st) _ fun y B3 H3 t3 s3 d3 => by
    obtain ⟨vs, h1, h2⟩ := s3.ls hj
    have hl := dpa_len h2
    rw [List.length_map] at hl
    unfold setI at hs
    obtain ⟨jx, e1, e2⟩ := Option.map_eq_some_iff.mp hs
    refine ⟨l, vs, i, jx, d2, int_of d3, h1, by rw [hl]; exact e1, ?_⟩
    have hcd : CdOk F.K B3 (.ls (ys.map f)) (.lst (vs.set jx v)) := by
      subst e2
      rw [List.map_set]
      exact dqa_set jx h2 (dp_mono (t2.ex.trans t3.ex) d1)
    exact k σ _ ⟨B3, st_mono (t1.ex.trans (t2.ex.trans t3.ex)) st, s3.put hj hcd, (((t.trans t1).trans t2).trans t3).trans (Tr.put s3 hj hcd), lo.trans (t1.ex.trans (t2.ex.trans t3.ex))⟩
end

/-! ### loops -/
section
variable {α S R : Type}
inductive Ctl (S R : Type) where
  | nx (s : S)
  | bk (s : S)
  | rt (r : R)
def forC (step : S → α → Option (Ctl S R)) : S → List α → Option (Ctl S R)
  | s, [] => some (.nx s)
  | s, x :: xs => (step s x).bind fun c => match c with
    | .nx s' => forC step s' xs
    | .bk s' => some (.bk s')
    | .rt r => some (.rt r)
def forF (step : S → α → Option S) : S → List α → Option S
  | s, [] => some s
  | s, x :: xs => (step s x).bind fun s' => forF step s' xs
/-- while: at most n turns -/
def whiF (cond : S → Option Bool) (step : S → Option S) : Nat → S → Option S
  | 0, _ => none
  | n + 1, s => (cond s).bind fun b => match b with
    | true => (step s).bind fun s' => whiF cond step n s'
    | false => some s
end
section
variable {F : Fx} {D : Ends} {ds : List SD} {m m1 : M} {α S R : Type} {wi : TI} {g : TG} {G : M → Prop} {items : List α} {up : α → List SD → List SD} {js : List Nat} {tb tz : TS} {tt : TT}
theorem fin_at {D' : Ends} {R : SD → M → Prop} {lo : Hp} (h : Fin F D R) (e : D'.rt = D.rt) : Fin (F.at lo) D' R := fun v B H r m2 hr t s d => by
  rw [e]
  exact h v B H r m2 hr t s d
theorem wp_forC (dF : S → List SD) (mF : S → M) {step : S → α → Option (Ctl S R)} {s0 : S} {c : Ctl S R} (hs : Src F.K wi g ds m m1 G items up js) (h : forC step s0 items = some c) (hw : Wks ds (dF s0)) (hm : m1 = mF s0) (hG : ∀ s, G (mF s))
    (body : ∀ lo s x c', x ∈ items → step s x = some c' → ∀ D', D'.rt = D.rt → (∀ s', c' = .nx s' → ∀ σ H, At (F.at lo) (dF s') (mF s') σ H → D'.nx σ H) → (∀ s', c' = .nx s' → ∀ σ H, At (F.at lo) (dF s') (mF s') σ H → D'.ct σ H) →
      (∀ s', c' = .bk s' → ∀ σ H, At (F.at lo) (dF s') (mF s') σ H → D'.bk σ H) → (∀ r, c' = .rt r → c = .rt r) → Wp (F.at lo) tb D' (up x (dF s)) (mF s))
    (k : ∀ s, (c = .nx s ∨ c = .bk s) → Wp F tz D (dF s) (mF s)) : Wp F (tSeq (tFor wi g tb) tz) D ds m := fun σ H ⟨B, st, s, t, lo⟩ => by
  subst hm
  refine hs B H σ s st _ fun J B1 H1 t1 s1 T => ?_
  refine ⟨fun i n σ' H' => n = items.length - i ∧ i ≤ items.length ∧ ∃ s', forC step s' (items.drop i) = some c ∧ At (F.at B1) (dF s') (mF s') σ' H',
    ⟨items.length, by simp, Nat.zero_le _, s0, h, B1, hw.st (st_mono t1.ex st), s1, t.trans t1, Ex.refl _⟩, ?_⟩
  have back : ∀ {es mm σ3 H3}, At (F.at B1) es mm σ3 H3 → At F es mm σ3 H3 := fun ⟨B3, a1, a2, a3, a4⟩ => ⟨B3, a1, a2, a3, (lo.trans t1.ex).trans a4⟩
  rintro i n σ' H' ⟨rfl, hi, s', hf, B', st', sk, tr, eB⟩
  by_cases hlt : i < items.length
  · have hx : items[i]? = some items[i] := List.getElem?_eq_getElem hlt
    have hdrop : items.drop i = items[i] :: items.drop (i + 1) := List.drop_eq_getElem_cons hlt
    rw [hdrop] at hf
    obtain ⟨c', hstep, hrest⟩ := bindS hf
    refine .inr ⟨T.1 i H' B' _ hlt eB (hG _) sk, fun σ2 H2 => i + 1 ≤ items.length ∧ ∃ s', forC step s' (items.drop (i + 1)) = some c ∧ At (F.at B1) (dF s') (mF s') σ2 H2,
      fun σ2 H2 p => ⟨items.length - (i + 1), by omega, rfl, p⟩, fun x H'' hy => ?_⟩
    refine T.2.2 i items[i] x H' H'' B' _ (dF s') σ' hx eB (hG _) sk st' hy _ fun B2 σ2 t2 s2 st2 _ => ?_
    refine body B1 s' items[i] c' (List.getElem_mem hlt) hstep _ ?_ ?_ ?_ ?_ ?_ σ2 H'' ⟨B2, st2, s2, tr.trans t2, eB.trans t2.ex⟩
    · rfl
    · rintro s3 rfl σ3 H3 a3
      exact ⟨hlt, s3, hrest, a3⟩
    · rintro s3 rfl σ3 H3 a3
      exact ⟨hlt, s3, hrest, a3⟩
    · rintro s3 rfl σ3 H3 a3
      exact k s3 (.inr (Option.some.inj hrest).symm) σ3 H3 (back a3)
    · rintro r rfl
      exact (Option.some.inj hrest).symm
  · have e : i = items.length := by omega
    subst e
    rw [List.drop_length] at hf
    exact .inl ⟨T.2.1 H' B' _ eB (hG _) sk, k s' (.inl (Option.some.inj hf).symm) σ' H' (back ⟨B', st', sk, tr, eB⟩)⟩
theorem forF_C {step : S → α → Option S} : ∀ (xs : List α) (s t : S), forF step s xs = some t → forC (R := Unit) (fun s x => (step s x).map Ctl.nx) s xs = some (.nx t)
  | [], s, t, h => by
    rw [show s = t from Option.some.inj h]
    rfl
  | x :: xs, s, t, h => by
    obtain ⟨s', h1, h2⟩ := bindS h
    show ((step s x).map Ctl.nx).bind _ = _
    rw [h1]
    exact forF_C xs s' t h2
/-- a loop that is never left early -/
theorem wp_forF (dF : S → List SD) (mF : S → M) {step : S → α → Option S} {s0 sN : S} (hs : Src F.K wi g ds m m1 G items up js) (h : forF step s0 items = some sN) (hw : Wks ds (dF s0)) (hm : m1 = mF s0) (hG : ∀ s, G (mF s))
    (body : ∀ lo s x s', x ∈ items → step s x = some s' → ∀ D', D'.rt = D.rt → (∀ σ H, At (F.at lo) (dF s') (mF s') σ H → D'.nx σ H) → (∀ σ H, At (F.at lo) (dF s') (mF s') σ H → D'.ct σ H) → Wp (F.at lo) tb D' (up x (dF s)) (mF s))
    (k : Wp F tz D (dF sN) (mF sN)) : Wp F (tSeq (tFor wi g tb) tz) D ds m :=
  wp_forC (R := Unit) dF mF hs (forF_C items s0 sN h) hw hm hG (fun lo s x c' hx hstep D' e1 e2 e3 _ _ => by
    obtain ⟨s', h1, rfl⟩ := Option.map_eq_some_iff.mp hstep
    exact body lo s x s' hx h1 D' e1 (e2 s' rfl) (e3 s' rfl)) (fun s hc => by
    rcases hc with hc | hc
    · injection hc with e
      rw [← e]
      exact k
    · cases hc)
/-- while -/
theorem wp_whi (dF : S → List SD) (mF : S → M) {cond : S → Option Bool} {step : S → Option S} {n0 : Nat} {s0 sN : S} (h : whiF cond step n0 s0 = some sN) (hw : Wks ds (dF s0)) (hm : m = mF s0)
    (test : ∀ s b, cond s = some b → EvT F.K tt (dF s) (mF s) b (mF s))
    (body : ∀ s s', cond s = some true → step s = some s' → ∀ D', D'.rt = D.rt → (∀ σ H, At F (dF s') (mF s') σ H → D'.nx σ H) → (∀ σ H, At F (dF s') (mF s') σ H → D'.ct σ H) → Wp F tb D' (dF s) (mF s))
    (k : cond sN = some false → Wp F tz D (dF sN) (mF sN)) : Wp F (tSeq (tWhile tt tb) tz) D ds m := fun σ H ⟨B, st, s, t, lo⟩ => by
  subst hm
  refine ⟨fun n σ' H' => ∃ s', whiF cond step n s' = some sN ∧ At F (dF s') (mF s') σ' H', ⟨n0, s0, h, B, hw.st st, s, t, lo⟩, ?_⟩
  rintro n σ' H' ⟨s', hf, B', st', sk, tr, eB⟩
  cases n with
  | zero => cases hf
  | succ n =>
    obtain ⟨b, h1, h2⟩ := bindS hf
    refine test s' b h1 B' H' σ' sk st' _ fun B2 H2 t2 s2 => ?_
    cases b with
    | true =>
      obtain ⟨s3, h3, h4⟩ := bindS h2
      refine iteT ⟨fun σ2 H2 => ∃ s', whiF cond step n s' = some sN ∧ At F (dF s') (mF s') σ2 H2, fun σ2 H2 p => ⟨n, Nat.lt_succ_self n, p⟩, ?_⟩
      refine body s' s3 h1 h3 _ ?_ ?_ ?_ σ' H2 ⟨B2, st_mono t2.ex st', s2, tr.trans t2, eB.trans t2.ex⟩
      · rfl
      · exact fun σ4 H4 a4 => ⟨s3, h4, a4⟩
      · exact fun σ4 H4 a4 => ⟨s3, h4, a4⟩
    | false =>
      have e : s' = sN := Option.some.inj h2
      subst e
      exact iteF (k h1 σ' H2 ⟨B2, st_mono t2.ex st', s2, tr.trans t2, eB.trans t2.ex⟩)
end

/-! ### dicts -/
section
variable {κ α : Type} [DecidableEq κ]
def dget (kvs : List (κ × α)) (k : κ) : Option α := (kvs.find? fun kv => decide (kv.1 = k)).map (·.2)
def dput (kvs : List (κ × α)) (k : κ) (v : α) : List (κ × α) := if (kvs.any fun kv => decide (kv.1 = k)) = true then kvs.map (fun kv => if kv.1 = k then (kv.1, v) else kv) else kvs ++ [(k, v)]
def ddrop (kvs : List (κ × α)) (k : κ) : List (κ × α) := kvs.filter fun kv => decide (kv.1 ≠ k)
end
/-- keys that are texts, numbers, tuples of numbers -/
def kS (s : Str) : Key := .inr s
def kI (i : Int) : Key := .inl i
def kU (k : List Int) : List Key := k.map Sum.inl
def eK {κ κ' α : Type} (kf : κ → κ') (f : α → PyData) (kvs : List (κ × α)) : List (κ' × PyData) := kvs.map fun p => (kf p.1, f p.2)
section
variable {K : PySem.W.Frag} {B H : Hp} {ds : List SD} {m m1 m2 m' : M} {κ κ' α : Type} [DecidableEq κ] [DecidableEq κ'] {kf : κ → κ'} {f : α → PyData} {td ty tx tv : TE}
theorem kS_inj {a b : Str} (h : kS a = kS b) : a = b := Sum.inr.inj h
theorem kI_inj {a b : Int} (h : kI a = kI b) : a = b := Sum.inl.inj h
theorem kU_inj : ∀ {a b : List Int}, kU a = kU b → a = b
  | [], [], _ => rfl
  | [], _ :: _, h => by cases h
  | _ :: _, [], h => by cases h
  | x :: a, y :: b, h => by
    have h1 : Sum.inl x :: kU a = (Sum.inl y :: kU b : List Key) := h
    injection h1 with e1 e2
    rw [Sum.inl.inj e1, kU_inj e2]
theorem kv_get (hk : ∀ a b, kf a = kf b → a = b) : ∀ {kvs : List (κ × α)} {ws : List (κ' × V)} {k : κ}, KvOk B (eK kf f kvs) ws → match dget kvs k with
    | some a => ∃ v, valV ws (kf k) = some v ∧ Dq B v (f a)
    | none => valV ws (kf k) = none
  | [], [], k, _ => rfl
  | [], _ :: _, k, h => h.elim
  | _ :: _, [], k, h => h.elim
  | p :: kvs, w :: ws, k, h => by
    have h1 : kf p.1 = w.1 := h.1.1
    have h2 : Dq B w.2 (f p.2) := h.1.2
    by_cases e : p.1 = k
    · have e2 : dget (p :: kvs) k = some p.2 := by simp [dget, List.find?_cons, e]
      rw [e2]
      exact ⟨w.2, valV_pos (by rw [← h1, e]), h2⟩
    · have e2 : dget (p :: kvs) k = dget kvs k := by simp [dget, List.find?_cons, e]
      have e3 : valV (w :: ws) (kf k) = valV ws (kf k) := valV_neg fun z => e (hk _ _ (h1.trans z))
      rw [e2, e3]
      exact kv_get hk h.2
theorem kv_any (hk : ∀ a b, kf a = kf b → a = b) : ∀ {kvs : List (κ × α)} {ws : List (κ' × V)} {k : κ}, KvOk B (eK kf f kvs) ws → (ws.any fun kv => decide (kv.1 = kf k)) = (kvs.any fun kv => decide (kv.1 = k))
  | [], [], k, _ => rfl
  | [], _ :: _, k, h => h.elim
  | _ :: _, [], k, h => h.elim
  | p :: kvs, w :: ws, k, h => by
    have h1 : kf p.1 = w.1 := h.1.1
    rw [List.any_cons, List.any_cons, kv_any hk h.2, ← h1, decide_eq_decide.mpr (show kf p.1 = kf k ↔ p.1 = k from ⟨hk _ _, fun e => by rw [e]⟩)]
theorem kv_map (hk : ∀ a b, kf a = kf b → a = b) {k : κ} {v : V} {a : α} (hv : Dq B v (f a)) : ∀ {kvs : List (κ × α)} {ws : List (κ' × V)}, KvOk B (eK kf f kvs) ws →
    KvOk B (eK kf f (kvs.map fun kv => if kv.1 = k then (kv.1, a) else kv)) (ws.map fun kv => if kv.1 = kf k then (kv.1, v) else kv)
  | [], [], _ => True.intro
  | [], _ :: _, h => h.elim
  | _ :: _, [], h => h.elim
  | p :: kvs, w :: ws, h => by
    have h1 : kf p.1 = w.1 := h.1.1
    have h2 : Dq B w.2 (f p.2) := h.1.2
    refine ⟨?_, kv_map hk hv h.2⟩
    show kf (if p.1 = k then (p.1, a) else p).1 = (if w.1 = kf k then (w.1, v) else w).1 ∧ Dq B (if w.1 = kf k then (w.1, v) else w).2 (f (if p.1 = k then (p.1, a) else p).2)
    by_cases e : p.1 = k
    · rw [if_pos e, if_pos (show w.1 = kf k by rw [← h1, e])]
      exact ⟨h1, hv⟩
    · rw [if_neg e, if_neg (fun z => e (hk _ _ (h1.trans z)))]
      exact ⟨h1, h2⟩
theorem kv_app : ∀ {a b : List (κ' × PyData)} {u w : List (κ' × V)}, KvOk B a u → KvOk B b w → KvOk B (a ++ b) (u ++ w)
  | [], _, [], _, _, q => q
  | [], _, _ :: _, _, h, _ => h.elim
  | _ :: _, _, [], _, h, _ => h.elim
  | _ :: _, _, _ :: _, _, h, q => ⟨h.1, kv_app h.2 q⟩
theorem kv_put (hk : ∀ a b, kf a = kf b → a = b) {kvs : List (κ × α)} {ws : List (κ' × V)} {k : κ} {v : V} {a : α} (h : KvOk B (eK kf f kvs) ws) (hv : Dq B v (f a)) : KvOk B (eK kf f (dput kvs k a)) (putK ws (kf k) v) := by
  unfold dput putK
  rw [kv_any hk h]
  split
  · exact kv_map hk hv h
  · unfold eK
    rw [List.map_append]
    exact kv_app h ⟨⟨rfl, hv⟩, True.intro⟩
theorem kv_len : ∀ {a : List (κ' × PyData)} {u : List (κ' × V)}, KvOk B a u → u.length = a.length
  | [], [], _ => rfl
  | [], _ :: _, h => h.elim
  | _ :: _, [], h => h.elim
  | _ :: _, _ :: _, h => congrArg (· + 1) (kv_len h.2)
theorem kv_drop (hk : ∀ a b, kf a = kf b → a = b) {k : κ} : ∀ {kvs : List (κ × α)} {ws : List (κ' × V)}, KvOk B (eK kf f kvs) ws → KvOk B (eK kf f (ddrop kvs k)) (dropK ws (kf k))
  | [], [], _ => True.intro
  | [], _ :: _, h => h.elim
  | _ :: _, [], h => h.elim
  | p :: kvs, w :: ws, h => by
    have h1 : kf p.1 = w.1 := h.1.1
    have ih := kv_drop hk (k := k) h.2
    unfold ddrop dropK at ih ⊢
    rw [List.filter_cons, List.filter_cons]
    by_cases e : p.1 = k
    · rw [if_neg (by simp [e]), if_neg (by simp [← h1, e])]
      exact ih
    · rw [if_pos (by simp [e]), if_pos (by simp only [ne_eq, decide_eq_true_eq]; exact fun z => e (hk _ _ (h1.trans z)))]
      exact ⟨h.1, ih⟩
theorem SOk.dk (s : SOk K B m H) {j : Nat} {l : Addr} {kvs : List (Key × PyData)} (hm : m[j]? = some (l, .dk kvs)) : ∃ ws, H l = some (.dK ws) ∧ KvOk B kvs ws := by
  obtain ⟨o, h, c⟩ := s.at hm
  cases o <;> first | exact ⟨_, h, c⟩ | exact c.elim
theorem SOk.dt (s : SOk K B m H) {j : Nat} {l : Addr} {kvs : List (List Key × PyData)} (hm : m[j]? = some (l, .dt kvs)) : ∃ ws, H l = some (.dT ws) ∧ KvOk B kvs ws := by
  obtain ⟨o, h, c⟩ := s.at hm
  cases o <;> first | exact ⟨_, h, c⟩ | exact c.elim
/-- a key's value -/
theorem key_S {x : Str} {y : V} (h : SdOk K B (.da (dS x)) y) : y = kV (kS x) := str_of h
theorem key_I {x : Int} {y : V} (h : SdOk K B (.da (dI x)) y) : y = kV (kI x) := int_of h
theorem key_U {x : List Int} {y : V} (h : SdOk K B (.da (dU dI x)) y) : ∃ b, y = .ref b ∧ B b = some (.tup ((kU x).map kV)) := by
  obtain ⟨p, vs, rfl, hp, ha⟩ := tup_of h
  have e := dqa_ints ha
  subst e
  refine ⟨p, rfl, ?_⟩
  rw [hp]
  unfold kU
  rw [List.map_map]
  rfl
end
/-- kinds of keys -/
class KK (κ : Type) [DecidableEq κ] where
  kd : κ → PyData
  cell : {α : Type} → (α → PyData) → List (κ × α) → CD
  get : ∀ {K : PySem.W.Frag} {B H : Hp} {m : M} {l : Addr} {j : Nat} {α : Type} {f : α → PyData} {kvs : List (κ × α)} {k : κ} {y : V}, SOk K B m H → m[j]? = some (l, cell f kvs) → SdOk K B (.da (kd k)) y → match dget kvs k with
    | some a => ∃ v, DGet H l y (some v) ∧ Dq B v (f a)
    | none => DGet H l y none
  isD : ∀ {K : PySem.W.Frag} {B H : Hp} {m : M} {l : Addr} {j : Nat} {α : Type} {f : α → PyData} {kvs : List (κ × α)}, SOk K B m H → m[j]? = some (l, cell f kvs) → IsD H l
  put : ∀ {K : PySem.W.Frag} {B H : Hp} {m : M} {l : Addr} {j : Nat} {α : Type} {f : α → PyData} {kvs : List (κ × α)} {k : κ} {y v : V} {a : α}, SOk K B m H → m[j]? = some (l, cell f kvs) → SdOk K B (.da (kd k)) y → Dq B v (f a) → kvs.length ≤ 16000000 →
    ∃ o, DPut H l y v (upd H l o) ∧ CdOk K B (cell f (dput kvs k a)) o
instance : KK Str where
  kd := dS
  cell f kvs := .dk (eK kS f kvs)
  get := fun {K B H m l j α f kvs k y} s hj hy => by
    obtain ⟨ws, h1, h2⟩ := s.dk hj
    have h3 := kv_get (fun _ _ => kS_inj) (k := k) h2
    rw [key_S hy]
    have h4 := DGet.k (k := kS k) h1
    cases e : dget kvs k with
    | none =>
      rw [e] at h3
      rw [h3] at h4
      exact h4
    | some a =>
      rw [e] at h3
      obtain ⟨v, h5, h6⟩ := h3
      rw [h5] at h4
      exact ⟨v, h4, h6⟩
  isD := fun s hj => by
    obtain ⟨ws, h1, h2⟩ := s.dk hj
    exact .inl ⟨ws, .inl h1⟩
  put := fun {K B H m l j α f kvs k y v a} s hj hy hv hz => by
    obtain ⟨ws, h1, h2⟩ := s.dk hj
    have hl := kv_len h2
    unfold eK at hl
    rw [List.length_map] at hl
    rw [key_S hy]
    exact ⟨_, DPut.k h1 (by rw [sizeLine_eq]; omega), kv_put (fun _ _ => kS_inj) h2 hv⟩
instance : KK Int where
  kd := dI
  cell f kvs := .dk (eK kI f kvs)
  get := fun {K B H m l j α f kvs k y} s hj hy => by
    obtain ⟨ws, h1, h2⟩ := s.dk hj
    have h3 := kv_get (fun _ _ => kI_inj) (k := k) h2
    rw [key_I hy]
    have h4 := DGet.k (k := kI k) h1
    cases e : dget kvs k with
    | none =>
      rw [e] at h3
      rw [h3] at h4
      exact h4
    | some a =>
      rw [e] at h3
      obtain ⟨v, h5, h6⟩ := h3
      rw [h5] at h4
      exact ⟨v, h4, h6⟩
  isD := fun s hj => by
    obtain ⟨ws, h1, h2⟩ := s.dk hj
    exact .inl ⟨ws, .inl h1⟩
  put := fun {K B H m l j α f kvs k y v a} s hj hy hv hz => by
    obtain ⟨ws, h1, h2⟩ := s.dk hj
    have hl := kv_len h2
    unfold eK at hl
    rw [List.length_map] at hl
    rw [key_I hy]
    exact ⟨_, DPut.k h1 (by rw [sizeLine_eq]; omega), kv_put (fun _ _ => kI_inj) h2 hv⟩
instance : KK (List Int) where
  kd := dU dI
  cell f kvs := .dt (eK kU f kvs)
  get := fun {K B H m l j α f kvs k y} s hj hy => by
    obtain ⟨ws, h1, h2⟩ := s.dt hj
    have h3 := kv_get (fun _ _ => kU_inj) (k := k) h2
    obtain ⟨b, rfl, hb⟩ := key_U hy
    have h4 := DGet.t (k := kU k) h1 (s.ext _ _ hb)
    cases e : dget kvs k with
    | none =>
      rw [e] at h3
      rw [h3] at h4
      exact h4
    | some a =>
      rw [e] at h3
      obtain ⟨v, h5, h6⟩ := h3
      rw [h5] at h4
      exact ⟨v, h4, h6⟩
  isD := fun s hj => by
    obtain ⟨ws, h1, h2⟩ := s.dt hj
    exact .inr ⟨ws, .inl h1⟩
  put := fun {K B H m l j α f kvs k y v a} s hj hy hv hz => by
    obtain ⟨ws, h1, h2⟩ := s.dt hj
    have hl := kv_len h2
    unfold eK at hl
    rw [List.length_map] at hl
    obtain ⟨b, rfl, hb⟩ := key_U hy
    exact ⟨_, DPut.t h1 (s.ext _ _ hb) (by rw [sizeLine_eq]; omega), kv_put (fun _ _ => kU_inj) h2 hv⟩
section
variable {K : PySem.W.Frag} {B H : Hp} {ds : List SD} {m m1 m2 m3 m' : M} {κ α : Type} [DecidableEq κ] [KK κ] {f : α → PyData} {td ty tx tv : TE} {kvs : List (κ × α)} {k : κ} {a : α} {l : Addr}
theorem ev_dget (j : Nat) (hd : Ev K td ds m (.rf l) m1) (hy : Ev K ty ds m1 (.da (KK.kd k)) m2) (hj : m2[j]? = some (l, KK.cell f kvs)) (h : dget kvs k = some a) : Ev K (tDGet td ty) ds m (.da (f a)) m2 := fun B H σ s st Q q =>
  hd B H σ s st _ fun x B1 H1 t1 s1 d1 => hy B1 H1 σ s1 (st_mono t1.ex st) _ fun y B2 H2 t2 s2 d2 => by
    have g := KK.get s2 hj d2
    rw [h] at g
    obtain ⟨v, g1, g2⟩ := g
    exact ⟨l, v, d1, g1, q v B2 H2 (t1.trans t2) s2 g2⟩
theorem dc_some {H2 : Hp} {y : V} (s2 : SOk K B m H2) {j : Nat} (hj : m[j]? = some (l, KK.cell f kvs)) (d2 : SdOk K B (.da (KK.kd k)) y) : ∃ o : Option V, DGet H2 l y o ∧ o.isSome = (dget kvs k).isSome ∧ ∀ a, dget kvs k = some a → ∃ v, o = some v ∧ Dq B v (f a) := by
  have g := KK.get s2 hj d2
  cases e : dget kvs k with
  | none =>
    rw [e] at g
    exact ⟨none, g, rfl, fun a z => nomatch z⟩
  | some a =>
    rw [e] at g
    obtain ⟨v, g1, g2⟩ := g
    exact ⟨some v, g1, rfl, fun a' z => ⟨v, rfl, by rw [← Option.some.inj z]; exact g2⟩⟩
theorem ev_din (j : Nat) (hy : Ev K ty ds m (.da (KK.kd k)) m1) (hd : Ev K td ds m1 (.rf l) m2) (hj : m2[j]? = some (l, KK.cell f kvs)) : Ev K (tDIn ty td) ds m (.da (dB (dget kvs k).isSome)) m2 := fun B H σ s st Q q =>
  hy B H σ s st _ fun y B1 H1 t1 s1 d1 => hd B1 H1 σ s1 (st_mono t1.ex st) _ fun x B2 H2 t2 s2 d2 => by
    obtain ⟨o, g1, g2, _⟩ := dc_some s2 hj (sd_mono t2.ex d1)
    refine ⟨l, o, d2, g1, ?_⟩
    rw [g2]
    exact q _ B2 H2 (t1.trans t2) s2 (.bl _)
theorem ev_dnin (j : Nat) (hy : Ev K ty ds m (.da (KK.kd k)) m1) (hd : Ev K td ds m1 (.rf l) m2) (hj : m2[j]? = some (l, KK.cell f kvs)) : Ev K (tDNotIn ty td) ds m (.da (dB (!(dget kvs k).isSome))) m2 := fun B H σ s st Q q =>
  hy B H σ s st _ fun y B1 H1 t1 s1 d1 => hd B1 H1 σ s1 (st_mono t1.ex st) _ fun x B2 H2 t2 s2 d2 => by
    obtain ⟨o, g1, g2, _⟩ := dc_some s2 hj (sd_mono t2.ex d1)
    refine ⟨l, o, d2, g1, ?_⟩
    rw [g2]
    exact q _ B2 H2 (t1.trans t2) s2 (.bl _)
theorem ev_dget2 (j : Nat) (hd : Ev K td ds m (.rf l) m1) (hd0 : m1[j]? = some (l, KK.cell f kvs)) (hy : Ev K ty ds m1 (.da (KK.kd k)) m2) (hx : Ev K tx ds m2 (.da (f a)) m3) (hj : m3[j]? = some (l, KK.cell f kvs)) : Ev K (tDGet2 td ty tx) ds m (.da (f ((dget kvs k).getD a))) m3 := fun B H σ s st Q q =>
  hd B H σ s st _ fun x B1 H1 t1 s1 d1 => ⟨l, d1, KK.isD s1 hd0, hy B1 H1 σ s1 (st_mono t1.ex st) _ fun y B2 H2 t2 s2 d2 => hx B2 H2 σ s2 (st_mono (t1.ex.trans t2.ex) st) _ fun z B3 H3 t3 s3 d3 => by
    obtain ⟨o, g1, g2, g3⟩ := dc_some s3 hj (sd_mono t3.ex d2)
    refine ⟨o, g1, q _ B3 H3 ((t1.trans t2).trans t3) s3 ?_⟩
    cases e : dget kvs k with
    | none =>
      rw [e] at g2
      cases o with
      | none => exact d3
      | some v => cases g2
    | some b =>
      obtain ⟨v, rfl, g4⟩ := g3 b e
      exact g4⟩
end
section
variable {F : Fx} {D : Ends} {ds : List SD} {m m1 m2 m3 m' : M} {κ α : Type} [DecidableEq κ] [KK κ] {f : α → PyData} {td ty tx tv : TE} {kvs : List (κ × α)} {k : κ} {a : α} {l : Addr} {tz : TS}
theorem wp_dput (j : Nat) (hv : Ev F.K tv ds m (.da (f a)) m1) (hd : Ev F.K td ds m1 (.rf l) m2) (hy : Ev F.K ty ds m2 (.da (KK.kd k)) m3) (hj : m3[j]? = some (l, KK.cell f kvs)) (hz : lenG kvs.length = some ())
    (w : Wp F tz D ds (m3.set j (l, KK.cell f (dput kvs k a)))) : Wp F (tSeq (sDPut td ty tv) tz) D ds m := fun σ H ⟨B, st, s, t, lo⟩ =>
  hv B H σ s st _ fun v B1 H1 t1 s1 d1 => hd B1 H1 σ s1 (st_mono t1.ex st) _ fun x B2 H2 t2 s2 d2 => hy B2 H2 σ s2 (st_mono (t1.ex.trans t2.ex) st) _ fun y B3 H3 t3 s3 d3 => by
    obtain ⟨o, h1, h2⟩ := KK.put (a := a) s3 hj d3 (dp_mono (t2.ex.trans t3.ex) (show Dq B1 v (f a) from d1)) (lenG_some hz)
    exact ⟨l, _, d2, h1, w σ _ ⟨B3, st_mono (t1.ex.trans (t2.ex.trans t3.ex)) st, s3.put hj h2, (((t.trans t1).trans t2).trans t3).trans (Tr.put s3 hj h2), lo.trans (t1.ex.trans (t2.ex.trans t3.ex))⟩⟩
end
end FC
set_option maxHeartbeats 400000
/-! FV: what the printed walks use besides: pure tests, a def's body, a loop's ways out. -/
namespace FC
open PySem PySem.Spec PyProof.Rows L2 Evl

section
variable {K : PySem.W.Frag} {B H : Hp} {ds : List SD} {m m1 m2 m' : M} {ta tb te : TE} {t u : TT} {r : SD} {α β : Type} {f : α → PyData}
theorem et_andP {a b : Bool} (ha : EvT K t ds m a m1) (hb : EvT K u ds m1 b m1) : EvT K (tAnd t u) ds m (a && b) m1 := et_and ha (fun e => by rw [e]; exact hb) (fun e => by rw [e]; exact ⟨rfl, rfl⟩)
theorem et_orP {a b : Bool} (ha : EvT K t ds m a m1) (hb : EvT K u ds m1 b m1) : EvT K (tOr t u) ds m (a || b) m1 := et_or ha (fun e => by rw [e]; exact hb) (fun e => by rw [e]; exact ⟨rfl, rfl⟩)
theorem ev_andP {a b : Bool} (ha : Ev K ta ds m (.da (dB a)) m1) (hb : Ev K tb ds m1 (.da (dB b)) m1) : Ev K (tAndV ta tb) ds m (.da (dB (a && b))) m1 := ev_andV ha (fun e => by rw [e]; exact hb) (fun e => by rw [e]; exact ⟨rfl, rfl⟩)
theorem ev_orP {a b : Bool} (ha : Ev K ta ds m (.da (dB a)) m1) (hb : Ev K tb ds m1 (.da (dB b)) m1) : Ev K (tOrV ta tb) ds m (.da (dB (a || b))) m1 := ev_orV ha (fun e => by rw [e]; exact hb) (fun e => by rw [e]; exact ⟨rfl, rfl⟩)
theorem ev_ifP {c : Bool} {x y : α} (h : EvT K t ds m c m1) (h1 : Ev K ta ds m1 (.da (f x)) m1) (h2 : Ev K tb ds m1 (.da (f y)) m1) : Ev K (tIf t ta tb) ds m (.da (f (cond c x y))) m1 := ev_if h (fun e => by rw [e]; exact h1) (fun e => by rw [e]; exact h2)
theorem ev_some {o : Option α} {a : α} (h : Ev K te ds m (.da (dO f o)) m') (e : o = some a) : Ev K te ds m (.da (f a)) m' := by
  rw [e] at h
  exact h
theorem ev_eq {x y : α} (h : Ev K te ds m (.da (f x)) m') (e : x = y) : Ev K te ds m (.da (f y)) m' := by
  rw [← e]
  exact h
def two (xs : List α) : Option (α × α) := match xs with
  | [a, b] => some (a, b)
  | _ => none
theorem two_some {xs : List α} {a b : α} (h : two xs = some (a, b)) : xs = [a, b] := by
  unfold two at h
  split at h
  · cases h
    rfl
  · cases h
theorem condT {c : Bool} {a b v : Option α} (e : c = true) (h : cond c a b = v) : a = v := by
  rw [e] at h
  exact h
theorem condF {c : Bool} {a b v : Option α} (e : c = false) (h : cond c a b = v) : b = v := by
  rw [e] at h
  exact h
def ctlK {S R β : Type} (c : Ctl S R) (k : S → Option β) (r : R → Option β) : Option β := match c with
  | .nx s => k s
  | .bk s => k s
  | .rt x => r x
theorem ctlK_go {S R β : Type} {c : Ctl S R} {k : S → Option β} {r : R → Option β} {s : S} {v : Option β} (e : c = .nx s ∨ c = .bk s) (h : ctlK c k r = v) : k s = v := by
  rcases e with e | e <;> (rw [e] at h; exact h)
theorem ctlK_rt {S R β : Type} {c : Ctl S R} {k : S → Option β} {r : R → Option β} {x : R} {v : Option β} (e : c = .rt x) (h : ctlK c k r = v) : r x = v := by
  rw [e] at h
  exact h
theorem mapO_pure {g : α → β} : ∀ xs : List α, mapO (fun x => some (g x)) xs = some (xs.map g)
  | [] => rfl
  | x :: xs => by
    show Option.bind (some (g x)) _ = _
    rw [Option.bind_some, mapO_pure xs]
    rfl
theorem filO_pure {p : α → Bool} {g : α → β} : ∀ xs : List α, filO (fun x => some (p x)) (fun x => some (g x)) xs = some ((xs.filter p).map g)
  | [] => rfl
  | x :: xs => by
    show Option.bind (some (p x)) _ = _
    rw [Option.bind_some, filO_pure xs]
    cases h : p x with
    | true =>
      rw [List.filter_cons_of_pos h]
      rfl
    | false =>
      rw [List.filter_cons_of_neg (by rw [h]; decide)]
      rfl
def enumI (xs : List α) : List (Int × α) := (xs.zipIdx).map fun p => ((p.2 : Int), p.1)
theorem src_En {xs : List α} {j k : Nat} {t : TA} (h : EvA K t ds m [.da (dL f xs)] m1) : Src K (iEnum K t) (gTup K 2 (gCons (gName j) (gCons (gName k) gNil))) ds m m1 (fun _ => True) (enumI xs) (fun p ds => (ds.set j (.da (dI p.1))).set k (.da (f p.2))) ([j] ++ [k]) := src_E h
/-- a cell compared with data -/
theorem rr_eqC [DecidableEq α] [e : Enc f] {xs ys : List α} {l : Addr} (hd : Enc.dep (dL f) ≤ 60) (j : Nat) (hj : m[j]? = some (l, .ls (xs.map f))) : Rr K (rEqP K) (.rf l) (.da (dL f ys)) m (.da (dB (decide (xs = ys)))) m := Rr.of fun B H u v s dx dy Q q => by
  obtain ⟨vs, h1, h2⟩ := s.ls hj
  have e1 : u = .ref l := dx
  subst e1
  exact ⟨dL f xs, dL f ys, (Dq.lst h1 (dpa_mono s.ext h2) : Dq H (.ref l) (.list (xs.map f))).dp, da_dp s dy, Enc.plain xs, Enc.plain ys, Nat.le_trans (Enc.dep_le xs) hd, by rw [Enc.eqv]; exact q _ (.bl _)⟩
theorem rr_neC [DecidableEq α] [e : Enc f] {xs ys : List α} {l : Addr} (hd : Enc.dep (dL f) ≤ 60) (j : Nat) (hj : m[j]? = some (l, .ls (xs.map f))) : Rr K (rNeP K) (.rf l) (.da (dL f ys)) m (.da (dB (!decide (xs = ys)))) m := Rr.of fun B H u v s dx dy Q q => by
  obtain ⟨vs, h1, h2⟩ := s.ls hj
  have e1 : u = .ref l := dx
  subst e1
  exact ⟨dL f xs, dL f ys, (Dq.lst h1 (dpa_mono s.ext h2) : Dq H (.ref l) (.list (xs.map f))).dp, da_dp s dy, Enc.plain xs, Enc.plain ys, Nat.le_trans (Enc.dep_le xs) hd, by rw [Enc.eqv]; exact q _ (.bl _)⟩
theorem rr_pow {i j k : Int} (h : CPow i j) (e : i ^ j.toNat = k) : Rr K (rI CPow fun i j => .int (i ^ j.toNat)) (.da (dI i)) (.da (dI j)) m (.da (dI k)) m := rr_c (f := fun i j => i ^ j.toNat) h e
end

section
variable {F : Fx} {D : Ends} {ds : List SD} {m m1 m2 : M} {te : TE} {tz : TS} {r : SD} {R : SD → M → Prop}
theorem wp_retS (h : Ev F.K te ds m r m1) (hf : Fin F D R) (hr : R r m2) (hs : m2.Sublist m1) : Wp F (tSeq (tRet te) tz) D ds m := fun σ H ⟨B, st, s, t, lo⟩ =>
  h B H σ s st _ fun v B2 H2 t2 s2 d => hf v B2 H2 r m2 hr ((t.trans t2).sub fun a z => (hs.map _).subset z) (s2.sub hs) d
/-- a new cell is handed back -/
theorem wp_retN' {c : CD} (h : EvN F.K te ds m c m1) (hf : Fin F D R) (hr : ∀ p, R (.rf p) (m1 ++ [(p, c)])) : Wp F (tSeq (tRet te) tz) D ds m := fun σ H ⟨B, st, s, t, lo⟩ =>
  h B H σ s st _ fun p B2 H2 t2 s2 => hf (.ref p) B2 H2 (.rf p) _ (hr p) (t.trans t2) s2 rfl
end

/-! ### rules with the written part named -/
section
variable {X : Cx} {K : PySem.W.Frag}
theorem kOp {f : Value → Value → Sem Value} {r : PySem.W.Frag → R2} (h : OpR X f (r X.K)) (e : X.K = K) : OpR X f (r K) := by
  rw [← e]
  exact h
theorem kIx {r : PySem.W.Frag → R2} (h : IxR X (r X.K)) (e : X.K = K) : IxR X (r K) := by
  rw [← e]
  exact h
theorem kSl {r : PySem.W.Frag → V → Option Int → Option Int → Hp → VK → Prop} (h : SlR X (r X.K)) (e : X.K = K) : SlR X (r K) := by
  rw [← e]
  exact h
theorem kCa {f : Value} {r : PySem.W.Frag → List V → Hp → VK → Prop} (h : CallR X f (r X.K)) (e : X.K = K) : CallR X f (r K) := by
  rw [← e]
  exact h
theorem kPi {tg it : Expr} {r : PySem.W.Frag → TI} (h : PI X tg it (r X.K)) (e : X.K = K) : PI X tg it (r K) := by
  rw [← e]
  exact h
theorem kPe {e : Expr} {r : PySem.W.Frag → TE} (h : PE X e (r X.K)) (e' : X.K = K) : PE X e (r K) := by
  rw [← e']
  exact h
abbrev rLenA (K : PySem.W.Frag) : List V → Hp → VK → Prop := fun xs H Q => ∃ p ys, xs = [.ref p] ∧ (SqL K H p ys ∨ SqT K H p ys) ∧ Q (.int ys.length) H
end
/-! ### a def -/
def startD (N : List Str) (as : List SD) : List SD := as ++ List.replicate (N.length - as.length) .un
theorem st_start {K : PySem.W.Frag} {B : Hp} {N : List Str} : ∀ {as : List SD} {vs : List V}, SdAll K B as vs → StOk K B (startD N as) (L2.start N vs) := fun {as vs} h => by
  have hl := sda_len h
  unfold startD L2.start
  rw [hl]
  have app : ∀ {as : List SD} {vs : List V} (n : Nat), SdAll K B as vs → StOk K B (as ++ List.replicate n .un) (vs.map some ++ List.replicate n none) := by
    intro as
    induction as with
    | nil =>
      intro vs n h
      cases vs with
      | nil =>
        induction n with
        | zero => exact True.intro
        | succ n ih => exact ⟨True.intro, ih⟩
      | cons _ _ => exact h.elim
    | cons a as ih =>
      intro vs n h
      cases vs with
      | nil => exact h.elim
      | cons v vs => exact ⟨sl_of h.1, ih n h.2⟩
  exact app _ h
theorem hu65 {k : Nat} {A : Around} (h : Room k A) : A.units + 65 < cLine := by
  have := h.un
  omega
section
variable {P : Program} {w : World} {K : PySem.W.Frag} {mg : Str → Option Value} {base : Heap}
theorem ok_of {x qual : Str} {st : Stmt} {f : Addr} {fd : FuncData} {N ps : List Str} {k : Nat} {G : Pf} (F : Fun K x qual st f fd) (S : FnScope N ps (defScope st)) (len : ∀ as m R, G as m R → as.length = ps.length)
    (hbody : ∀ (cdv : Value) (A : Around) (outer : List Env) (s : Shared) (H : Hp) (E : XK), Room k (A.deeper (envOfC qual (defScope st) s.heap.objs.size f cdv)) →
      ∃ t, PSs (cxOf CX0 P w K mg base N qual (defScope st) f cdv A outer s H E).nox (defBody st) t ∧ ∀ as m R, G as m R → ∀ (F' : Fx) (D : Ends), F'.K = K → F'.k0 = keys m → Fin F' D R → (∀ σ B H m2, R (.da .none) m2 → Tr F'.B0 F'.H0 F'.k0 B H (keys m2) → SOk F'.K B m2 H → D.nx σ H) → Wp F' t D (startD N as) m) : FnOk P w K mg base CX0 (k + 1) f fd ps (spOf K G) := by
  refine F.ok S (fun vs H Q E h => ?_) (fun cdv A outer s H vs Q E hr h => ?_)
  · obtain ⟨B, as, m, R, hG, _, hv, _⟩ := h
    rw [sda_len hv]
    exact len as m R hG
  · obtain ⟨B, as, m, R, hG, hs, hv, q⟩ := h
    obtain ⟨t, h1, h2⟩ := hbody cdv A outer s H E hr
    let F' : Fx := ⟨K, B, H, keys m, fun a ha => by
      obtain ⟨c, hc, e⟩ := List.mem_map.mp ha
      rw [← e]
      exact hs.ne hc, B⟩
    refine ⟨t, h1, h2 as m R hG F' _ rfl rfl (fun v B2 H2 r m2 hr t2 s2 d => q v B2 H2 r m2 hr t2 s2 d) (fun σ B2 H2 m2 hr t2 s2 => q .non B2 H2 _ m2 hr t2 s2 .non) _ H ⟨B, st_start hv, hs, Tr.refl _ _ _, Ex.refl _⟩⟩
end
section
variable {F : Fx} {D : Ends} {ds : List SD} {m m1 : M} {S R : Type} {tu tw tz : TS} {tt : TT}
/-- an if whose branches may hand back from within -/
theorem wp_cutIfC {b : Bool} {c : Ctl S R} (dF : S → List SD) (mF : S → M) (k : ∀ s, (c = .nx s ∨ c = .bk s) → Wp F tz D (dF s) (mF s)) (h : EvT F.K tt ds m b m1)
    (h1 : b = true → Wp F tu { D with nx := fun σ H => ∃ s, c = .nx s ∧ At F (dF s) (mF s) σ H } ds m1) (h2 : b = false → Wp F tw { D with nx := fun σ H => ∃ s, c = .nx s ∧ At F (dF s) (mF s) σ H } ds m1) : Wp F (tCut (tIfS tt tu tw) tz) D ds m := fun σ H ⟨B, st, s, t, lo⟩ =>
  ⟨fun σ H => ∃ s, c = .nx s ∧ At F (dF s) (mF s) σ H, h B H σ s st _ fun B2 H2 t2 s2 => by
    cases b with
    | true => exact iteT (h1 rfl σ H2 ⟨B2, st_mono t2.ex st, s2, t.trans t2, lo.trans t2.ex⟩)
    | false => exact iteF (h2 rfl σ H2 ⟨B2, st_mono t2.ex st, s2, t.trans t2, lo.trans t2.ex⟩), fun σ H ⟨s, e, a⟩ => k s (.inl e) σ H a⟩
theorem wp_nextE {s : S} {dF : S → List SD} {mF : S → M} (w : Wks ds (dF s)) (e : m = mF s) : Wp F tNext { D with nx := fun σ H => ∃ s', (Ctl.nx s : Ctl S R) = .nx s' ∧ At F (dF s') (mF s') σ H } ds m := fun σ H a => by
  subst e
  exact ⟨s, rfl, at_weak w a⟩
end
end FC
set_option maxHeartbeats 400000
/-! FX: sorted(d.items()) of a dict with tuples of numbers as keys. -/
namespace FC
open PySem PySem.Spec PyProof.Rows L2 Evl L2.DX
inductive Fl : V → PyData → Prop
  | int (i : Int) : Fl (.int i) (.int i)
  | str (x : Str) : Fl (.str x) (.str x)
  | bl (b : Bool) : Fl (.bl b) (.bool b)
theorem Fl.reads {v : V} {d : PyData} {u : Value} (h : Heap) (f : Fl v d) (r : RelV v u) : Reads h u d [] := by
  cases f with
  | int i => obtain ⟨t, rfl⟩ := r; exact .int i t
  | str x => obtain ⟨t, rfl⟩ := r; exact .str x t
  | bl b => obtain rfl := r; exact .bool b
def kD : L2.Key → PyData
  | .inl i => .int i
  | .inr x => .str x
theorem fl_k (k : L2.Key) : Fl (kV k) (kD k) := by cases k <;> constructor
theorem fl_readsAll (h : Heap) : ∀ {ks : List L2.Key} {its : List Value}, Vals (ks.map kV) its → ReadsAll h its (ks.map kD) []
  | [], _, .nil => .nil
  | k :: ks, _, .cons r rs => ReadsAll.cons (as := []) ((fl_k k).reads h r) (fl_readsAll h rs)
theorem each_of_ix {α β : Type} {R : α → β → Prop} : ∀ {xs : List α} {ys : List β}, xs.length = ys.length → (∀ (i : Nat) (x : α) (y : β), xs[i]? = some x → ys[i]? = some y → R x y) → PySem.W.EachIs R xs ys
  | [], [], _, _ => .nil
  | [], _ :: _, h, _ => by cases h
  | _ :: _, [], h, _ => by cases h
  | x :: xs, y :: ys, h, k => .cons (k 0 x y rfl rfl) (each_of_ix (Nat.succ.inj h) fun i a b ha hb => k (i + 1) a b ha hb)
theorem each_get {α β : Type} {R : α → β → Prop} : ∀ {xs : List α} {ys : List β}, PySem.W.EachIs R xs ys → ∀ {i : Nat} {x : α}, xs[i]? = some x → ∃ y, ys[i]? = some y ∧ R x y
  | _, _, .nil, _, _, h => by simp at h
  | _, _, .cons r _, 0, x, h => by
    cases Option.some.inj h
    exact ⟨_, rfl, r⟩
  | _, _, .cons _ t, i + 1, x, h => each_get t (i := i) h
theorem each_refs {S : Addr → PyData → Prop} : ∀ {ds : List PyData} {out : List Value}, PySem.W.EachIs (fun u d => ∃ b, u = Value.ref b ∧ S b d) out ds → ∃ bs : List Addr, out = bs.map Value.ref ∧ PySem.W.EachIs S bs ds
  | _, _, .nil => ⟨[], rfl, .nil⟩
  | _, _, .cons ⟨b, e, h⟩ t => by
    obtain ⟨bs, e2, h2⟩ := each_refs t
    exact ⟨b :: bs, by rw [e, e2]; rfl, .cons h h2⟩
theorem vals_refs : ∀ as : List Addr, Vals (as.map V.ref) (as.map Value.ref)
  | [] => .nil
  | _ :: as => .cons rfl (vals_refs as)
def rSortItD : List V → Hp → VK → Prop := fun vs H Q => ∃ (p a : Addr) (kvs : List (List L2.Key × V)) (ds : List PyData), vs = [.ref p] ∧ H p = some (itemsO p a) ∧ H a = some (.dT kvs) ∧
  PySem.W.EachIs (fun (kv : List L2.Key × V) d => ∃ dv, d = .tuple [.tuple (kv.1.map kD), dv] ∧ Fl kv.2 dv) kvs ds ∧ PySem.W.AllAlike ds ∧ (∀ d ∈ ds, d.depth ≤ 60) ∧
  ∀ (H' : Hp) (l : Addr) (ys : List V), Ex H H' → H l = none → H' l = some (.lst ys) → PySem.W.EachIs (fun y d => ∃ (b kq : Addr) (kv : List L2.Key × V) (dv : PyData), y = .ref b ∧ H b = none ∧ H' b = some (.tup [.ref kq, kv.2]) ∧ H kq = some (.tup (kv.1.map kV)) ∧ d = .tuple [.tuple (kv.1.map kD), dv] ∧ Fl kv.2 dv) ys (ds.mergeSort (PySem.W.dataLe false id)) → Q (.ref l) H'
section
variable {X : Cx}
theorem cr_sortItD (hc : X.calm = true) (hu : X.A.units + 64 < cLine) : CallR X (.builtin "sorted") rSortItD := by
  intro pins s σ H xs us Q I r h
  obtain ⟨p, a, kvs, ds, rfl, hp, ha, hds, hal, hdp, q⟩ := h
  obtain rfl := Vals.ref1 r
  have view : s.heap.IsItemsView p a := (show ObjOk X.prog X.w H s.heap p (itemsO p a) from I.hok p _ hp).1
  obtain ⟨z, hd, xs', rel, o, es, ep, ho, hx, hdat, hes, his, hn⟩ := dt_of I.hok ha
  have l1 : kvs.length = xs'.length := Paired.length rel
  have l2 : es.size = xs'.length := size_of_entries hes
  have l3 : kvs.length = ds.length := hds.length
  have hh : X.A.handled = none := I.ok.hd hc
  refine DT.sortedI (es := es) (ep := ep) hh view ⟨o, ho, hx, hdat⟩ (by omega) fun h' tk as hk hlt hl hG => ?_
  have nd : as.Nodup := List.Pairwise.imp (fun h => Nat.ne_of_lt h) hG.rise
  have pr : ∀ (j : Nat) (b : Addr), as[j]? = some b → ∃ (kv : List L2.Key × V) (kq : Addr) (vv : Value), kvs[j]? = some kv ∧ H kq = some (.tup (kv.1.map kV)) ∧ RelV kv.2 vv ∧ h'.get? b = some { cls := .type "tuple", data := .seq #[Value.ref kq, vv] } := by
    intro j b hj
    obtain ⟨en, he, hg⟩ := hG.pairs j b hj
    rw [entry_at hes j] at he
    cases hxj : xs'[j]? with
    | none =>
      rw [hxj] at he
      exact nomatch (show (none : Option DictEntry) = some en from he)
    | some x =>
      rw [hxj] at he
      have een : entryOfKey (tupleKind (mixKind X.prog X.w)) x = en := Option.some.inj he
      obtain ⟨e0, he0, r1, r2, r3⟩ := pget rel hxj
      refine ⟨e0, x.2.1, x.2.2, he0, r2, r3, ?_⟩
      rw [hg, ← een]
      all_goals rfl
  have hob : (h'.push { cls := .type "list", data := .seq (as.map Value.ref).toArray }).get? h'.objs.size = some (seqObj "list" (as.map Value.ref).toArray 0) := Heap.get?_push_size _ rfl
  have kb : ∀ b o, s.heap.get? b = some o → (h'.push { cls := .type "list", data := .seq (as.map Value.ref).toArray }).get? b = some o := fun b o e => Heap.get?_push_of_some _ (hk b o e)
  have ne0 : ∀ b o, h'.get? b = some o → b ≠ h'.objs.size := fun b o e => Nat.ne_of_lt (Heap.lt_size e)
  generalize hh2 : h'.push { cls := .type "list", data := .seq (as.map Value.ref).toArray } = h2 at hob kb ⊢
  have ka : ∀ b o, h'.get? b = some o → h2.get? b = some o := fun b o e => by rw [← hh2]; exact Heap.get?_push_of_some _ e
  have e1 : PySem.W.EachIs (fun u d => ∃ b, u = Value.ref b ∧ ∃ (j : Nat) (kv : List L2.Key × V) (dv : PyData), as[j]? = some b ∧ kvs[j]? = some kv ∧ d = .tuple [.tuple (kv.1.map kD), dv] ∧ Fl kv.2 dv) (as.map Value.ref) ds := by
    refine each_of_ix (by rw [List.length_map]; omega) fun i x y hx hy => ?_
    rw [List.getElem?_map] at hx
    cases hai : as[i]? with
    | none => rw [hai] at hx; exact nomatch hx
    | some b =>
      rw [hai] at hx
      obtain ⟨kv, kq, vv, h1, _, _, _⟩ := pr i b hai
      obtain ⟨d', h2, dv, h3, h4⟩ := each_get hds h1
      rw [hy] at h2
      cases Option.some.inj h2
      exact ⟨b, (Option.some.inj hx).symm, i, kv, dv, hai, h1, h3, h4⟩
  have e2 : PySem.W.EachIs (fun v d => ∃ asx, Reads h2 v (id d) asx ∧ h'.objs.size ∉ asx) (as.map Value.ref) ds := e1.mono fun u d ⟨b, eu, j, kv, dv, j1, j2, j3, j4⟩ => by
    obtain ⟨kv', kq, vv, i1, i2, i3, i4⟩ := pr j b j1
    cases Option.some.inj (j2.symm.trans i1)
    obtain ⟨_, its, rv, ot, hot, hct, nt, hdt⟩ := (show ObjOk X.prog X.w H s.heap kq (.tup (kv.1.map kV)) from I.hok kq _ i2)
    subst eu
    subst j3
    refine ⟨[], ?_, fun z => by cases z⟩
    refine Reads.tuple (ka _ _ i4) rfl rfl ?_
    refine ReadsAll.cons (as := []) (bs := []) (Reads.tuple (kb _ _ hot) hct hdt ?_) (ReadsAll.cons (as := []) (bs := []) (j4.reads h2 i3) .nil)
    exact fl_readsAll h2 rv
  refine PySem.W.list_sort_data (s := { s with heap := h2, toks := tk }) (enc := id) hob e1 e2 (by rw [List.map_id]; exact hal) (.inl fun d hd => ?_) (by omega) (fun d hd => by
    have := hdp d hd
    show X.A.units + 1 + 1 + d.depth < cLine
    omega) fun out hol hout => ?_
  · rw [List.map_id] at hd
    obtain ⟨i, hi⟩ := List.mem_iff_getElem?.mp hd
    have hlt : i < kvs.length := by rw [l3]; exact (List.getElem?_eq_some_iff.mp hi).1
    obtain ⟨d', h2, dv, h3, h4⟩ := each_get hds (List.getElem?_eq_getElem hlt)
    rw [hi] at h2
    cases Option.some.inj h2
    exact ⟨_, _, h3⟩
  · show EP X pins σ Q (.ref h'.objs.size) { s with heap := sortedHeap h2 h'.objs.size (as.map Value.ref) out.toArray, toks := tk }
    obtain ⟨bs, rfl, hbs⟩ := each_refs hout
    have kF : ∀ b o, b ≠ h'.objs.size → h2.get? b = some o → (sortedHeap h2 h'.objs.size (as.map Value.ref) (bs.map Value.ref).toArray).get? b = some o := fun b o hb e => (PyProof.Rows.sortedHeap_old hb (Heap.lt_size e)).trans e
    have kS : ∀ b o, s.heap.get? b = some o → (sortedHeap h2 h'.objs.size (as.map Value.ref) (bs.map Value.ref).toArray).get? b = some o := fun b o e => kF b o (ne0 _ _ (hk b o e)) (kb b o e)
    obtain ⟨eF, heF⟩ := PyProof.Rows.sortedHeap_at (vs := as.map Value.ref) (out := (bs.map Value.ref).toArray) hob
    have I1 : Inv X pins σ H { s with heap := sortedHeap h2 h'.objs.size (as.map Value.ref) (bs.map Value.ref).toArray, toks := tk } := I.kept (t' := tk) kS
    have hn0 : H h'.objs.size = none := I.hok.fresh (Nat.le_of_lt hlt)
    have hlen : (bs.map V.ref).length ≤ sizeLine := by
      rw [List.length_map] at hol ⊢
      omega
    have I2 : Inv X pins σ (upd H h'.objs.size (.lst (bs.map V.ref))) { s with heap := sortedHeap h2 h'.objs.size (as.map Value.ref) (bs.map Value.ref).toArray, toks := tk } :=
      I1.take (h' := sortedHeap h2 h'.objs.size (as.map Value.ref) (bs.map Value.ref).toArray) (t' := tk) (fun b ob _ e => e) (I.fpOk (Nat.le_of_lt hlt) hn0) ⟨hlen, bs.map Value.ref, eF, vals_refs bs, heF⟩
    obtain ⟨H2, I3, g, qt⟩ := takeT (P := fun b vs => ∃ (j : Nat) (kv : List L2.Key × V) (kq : Addr), as[j]? = some b ∧ kvs[j]? = some kv ∧ vs = [.ref kq, kv.2] ∧ H kq = some (.tup (kv.1.map kV))) I as _ I2 nd fun b hb => by
      obtain ⟨j, hj⟩ := List.mem_iff_getElem?.mp hb
      obtain ⟨kv, kq, vv, he, hkq, hrv, hg⟩ := pr j b hj
      have hbl : s.heap.objs.size ≤ b := Nat.le_of_lt (hG.above b hb)
      refine ⟨hbl, ?_, [.ref kq, kv.2], ⟨j, kv, kq, hj, he, rfl, hkq⟩, fun H3 => ⟨(by rw [sizeLine_eq]; show 2 ≤ 16777216; omega), [Value.ref kq, vv], .cons rfl (.cons hrv .nil), ⟨_, kF _ _ (ne0 _ _ hg) (ka _ _ hg), rfl, 0, rfl⟩⟩⟩
      rw [upd_ne (ne0 _ _ hg)]
      exact I.hok.fresh hbl
    have gr : Ex H H2 := fun b o e => g b o (by rw [upd_ne (ne_of_none e hn0)]; exact e)
    refine ⟨.ref h'.objs.size, H2, I3, rfl, q H2 h'.objs.size (bs.map V.ref) gr hn0 (g _ _ upd_same) ?_⟩
    refine each_of_ix (by rw [List.length_map]; exact hbs.length) fun i y d hy hd => ?_
    rw [List.getElem?_map] at hy
    cases hbi : bs[i]? with
    | none => rw [hbi] at hy; exact nomatch hy
    | some b =>
      rw [hbi] at hy
      obtain ⟨d', k1, j, kv, dv, j1, j2, j3, j4⟩ := each_get hbs hbi
      rw [hd] at k1
      cases Option.some.inj k1
      obtain ⟨vs, ⟨j', kv', kq, i1, i2, i3, i4⟩, hH⟩ := qt b (List.mem_of_getElem? j1)
      have eij : j' = j := (List.getElem?_inj (List.getElem?_eq_some_iff.mp i1).1 nd).mp (i1.trans j1.symm)
      subst eij
      cases Option.some.inj (i2.symm.trans j2)
      rw [i3] at hH
      exact ⟨b, kq, kv, dv, (Option.some.inj hy).symm, I.hok.fresh (Nat.le_of_lt (hG.above b (List.mem_of_getElem? j1))), hH, i4, j3, j4⟩
end

class FlE {α : Type} (f : α → PyData) : Prop where
  fl : ∀ {B : Hp} {v : V} {a : α}, Dq B v (f a) → Fl v (f a)
instance : FlE dI := ⟨fun {B v a} h => by have h' : Dq B v (.int a) := h; cases h'; exact .int a⟩
theorem Fl.dq {B : Hp} {v : V} {d : PyData} (h : Fl v d) : Dq B v d := by cases h <;> constructor
theorem kD_U (k : List Int) : .tuple ((kU k).map kD) = dU dI k := by
  show PyData.tuple _ = .tuple _
  unfold kU
  rw [List.map_map]
  rfl
theorem dqa_keys {B : Hp} : ∀ ks : List Key, DqAll B (ks.map kV) (ks.map kD)
  | [] => .nil
  | k :: ks => .cons (fl_k k).dq (dqa_keys ks)
section
variable {K : PySem.W.Frag} {ds : List SD} {m m1 : M} {α : Type} [DecidableEq α] {td : TE} {l : Addr}
theorem kv_each {B : Hp} (f : α → PyData) [FlE f] : ∀ {kvs : List (List Int × α)} {ws : List (List Key × V)}, KvOk B (eK kU f kvs) ws →
    PySem.W.EachIs (fun (kv : List Key × V) d => ∃ dv, d = .tuple [.tuple (kv.1.map kD), dv] ∧ Fl kv.2 dv) ws (kvs.map (dP (dU dI) f))
  | [], [], _ => .nil
  | [], _ :: _, h => h.elim
  | _ :: _, [], h => h.elim
  | p :: kvs, w :: ws, h => .cons ⟨f p.2, by
      have e : kU p.1 = w.1 := h.1.1
      rw [← e, kD_U]
      rfl, FlE.fl h.1.2⟩ (kv_each f h.2)
theorem ev_sortItems (f : α → PyData) [EncO f] [FlE f] (j : Nat) {kvs : List (List Int × α)} (hd : Ev K td ds m (.rf l) m1) (hj : m1[j]? = some (l, KK.cell f kvs)) (hdep : Enc.dep (dP (dU dI) f) ≤ 60) :
    Ev K (tCB rSortItD (tCons (tBM0 K "dict" rItemsT td) tNil)) ds m (.da (dL (dP (dU dI) f) (srt (EncO.lt (dP (dU dI) f)) kvs))) m1 := fun B H σ s st Q q =>
  hd B H σ s st _ fun x B1 H1 t1 s1 d1 => by
    have e : x = .ref l := d1
    subst e
    obtain ⟨ws, h1, h2⟩ := s1.dt hj
    refine ⟨.inr (.inr (.inl ⟨rfl, .inr ⟨ws, h1⟩⟩)), l, ws, rfl, rfl, h1, fun p hp => ?_⟩
    have t2 := Tr.data (o := itemsO p l) s1 hp
    have s2 := s1.data (o := itemsO p l) hp
    have hpl : p ≠ l := fun z => by rw [z, h1] at hp; cases hp
    refine ⟨p, l, ws, kvs.map (dP (dU dI) f), rfl, upd_same, by rw [upd_ne (Ne.symm hpl)]; exact h1, kv_each f h2, (alike_enc kvs).1, fun d hd' => ?_, fun H' lp ys ex hn hl he => ?_⟩
    · obtain ⟨a, _, rfl⟩ := List.mem_map.mp hd'
      exact Nat.le_trans (Enc.dep_le a) hdep
    · obtain ⟨t3, s3⟩ := Tr.fill s2 ex
      refine q _ _ _ ((t1.trans t2).trans t3) s3 ?_
      rw [srt_map] at he
      refine Dq.lst (by rw [fill_new hn]; exact hl) (each_dqa (he.mono fun y d ⟨b, kq, kv, dv, e1, e2, e3, e4, e5, e6⟩ => ?_))
      rw [e1, e5]
      exact Dq.tup (by rw [fill_new e2]; exact e3) (.cons (Dq.tup (by rw [fill_tup e4]; exact ex _ _ e4) (dqa_keys _)) (.cons e6.dq .nil))
end
end FC
set_option maxHeartbeats 400000
/-! FE: the orders are total; a sorted list is told by its items. Plain Lean. -/
namespace FC
open PySem
class Tot {α : Type} (lt : α → α → Bool) : Prop where
  irr : ∀ a, lt a a = false
  tri : ∀ a b, lt a b = false → lt b a = false → a = b
  tr : ∀ a b c, lt a b = true → lt b c = true → lt a c = true
section
variable {α β : Type} {lt : α → α → Bool} {lt2 : β → β → Bool}
theorem Tot.asym (T : Tot lt) {a b : α} (h : lt a b = true) : lt b a = false := by
  cases e : lt b a with
  | false => rfl
  | true =>
    have := T.tr a b a h e
    rw [T.irr] at this
    cases this
/-- not greater is passed on -/
theorem Tot.ntr (T : Tot lt) {a b c : α} (h1 : lt b a = false) (h2 : lt c b = false) : lt c a = false := by
  cases e : lt c a with
  | false => rfl
  | true =>
    cases e1 : lt a b with
    | true =>
      have := T.tr c a b e e1
      rw [h2] at this
      cases this
    | false =>
      have := T.tri a b e1 h1
      subst this
      rw [h2] at e
      cases e
instance : Tot ltI := ⟨fun a => decide_eq_false (Int.lt_irrefl a), fun a b h1 h2 => by
  have := of_decide_eq_false h1
  have := of_decide_eq_false h2
  omega, fun a b c h1 h2 => decide_eq_true (Int.lt_trans (of_decide_eq_true h1) (of_decide_eq_true h2))⟩
theorem str_ext {a b : Str} (h : a.cps.toList = b.cps.toList) : a = b := by
  cases a
  cases b
  congr 1
  exact Array.toList_inj.mp h
instance : Tot ltS := ⟨fun a => decide_eq_false (List.lt_irrefl _), fun a b h1 h2 => by
  have h3 := of_decide_eq_false h1
  have h4 := of_decide_eq_false h2
  exact str_ext (List.le_antisymm (List.not_lt.mp h4) (List.not_lt.mp h3)), fun a b c h1 h2 => decide_eq_true (List.lt_trans (of_decide_eq_true h1) (of_decide_eq_true h2))⟩
instance [DecidableEq α] [T : Tot lt] : Tot (ltL lt) where
  irr xs := by
    induction xs with
    | nil => rfl
    | cons x xs ih =>
      show (if x = x then ltL lt xs xs else lt x x) = false
      rw [if_pos rfl, ih]
  tri xs := by
    induction xs with
    | nil =>
      intro ys h1 _
      cases ys with
      | nil => rfl
      | cons y ys => cases h1
    | cons x xs ih =>
      intro ys h1 h2
      cases ys with
      | nil => cases h2
      | cons y ys =>
        have h1' : (if x = y then ltL lt xs ys else lt x y) = false := h1
        have h2' : (if y = x then ltL lt ys xs else lt y x) = false := h2
        by_cases e : x = y
        · subst e
          rw [if_pos rfl] at h1' h2'
          rw [ih ys h1' h2']
        · rw [if_neg e] at h1'
          rw [if_neg (fun z => e z.symm)] at h2'
          exact absurd (T.tri x y h1' h2') e
  tr xs := by
    induction xs with
    | nil =>
      intro ys zs h1 h2
      cases ys with
      | nil => cases h1
      | cons y ys =>
        cases zs with
        | nil => cases h2
        | cons z zs => rfl
    | cons x xs ih =>
      intro ys zs h1 h2
      cases ys with
      | nil => cases h1
      | cons y ys =>
        cases zs with
        | nil => cases h2
        | cons z zs =>
          have h1' : (if x = y then ltL lt xs ys else lt x y) = true := h1
          have h2' : (if y = z then ltL lt ys zs else lt y z) = true := h2
          show (if x = z then ltL lt xs zs else lt x z) = true
          by_cases e : x = y
          · subst e
            rw [if_pos rfl] at h1'
            by_cases e2 : x = z
            · rw [if_pos e2] at h2'
              rw [if_pos e2]
              exact ih ys zs h1' h2'
            · rw [if_neg e2] at h2'
              rw [if_neg e2]
              exact h2'
          · rw [if_neg e] at h1'
            by_cases e2 : y = z
            · subst e2
              rw [if_neg e]
              exact h1'
            · rw [if_neg e2] at h2'
              have h3 := T.tr x y z h1' h2'
              by_cases e3 : x = z
              · subst e3
                rw [T.irr] at h3
                cases h3
              · rw [if_neg e3]
                exact h3
instance [DecidableEq α] [T : Tot lt] [T2 : Tot lt2] : Tot (ltP lt lt2) where
  irr p := by
    unfold ltP
    rw [if_pos rfl]
    exact T2.irr _
  tri p q h1 h2 := by
    unfold ltP at h1 h2
    by_cases e : p.1 = q.1
    · rw [if_pos e] at h1
      rw [if_pos e.symm] at h2
      exact Prod.ext e (T2.tri _ _ h1 h2)
    · rw [if_neg e] at h1
      rw [if_neg (fun z => e z.symm)] at h2
      exact absurd (T.tri _ _ h1 h2) e
  tr p q r h1 h2 := by
    unfold ltP at h1 h2 ⊢
    by_cases e : p.1 = q.1
    · rw [if_pos e] at h1
      by_cases e2 : q.1 = r.1
      · rw [if_pos e2] at h2
        rw [if_pos (e.trans e2)]
        exact T2.tr _ _ _ h1 h2
      · rw [if_neg e2] at h2
        rw [if_neg (fun z => e2 (e.symm.trans z)), e]
        exact h2
    · rw [if_neg e] at h1
      by_cases e2 : q.1 = r.1
      · rw [if_neg (fun z => e (z.trans e2.symm)), ← e2]
        exact h1
      · rw [if_neg e2] at h2
        have h3 := T.tr _ _ _ h1 h2
        by_cases e3 : p.1 = r.1
        · rw [e3, T.irr] at h3
          cases h3
        · rw [if_neg e3]
          exact h3
theorem srt_pw [T : Tot lt] (xs : List α) : (srt lt xs).Pairwise fun a b => lt b a = false := by
  have := List.pairwise_mergeSort (le := fun a b => !lt b a) (fun a b c h1 h2 => by
    have h1' : lt b a = false := by simpa using h1
    have h2' : lt c b = false := by simpa using h2
    simpa using T.ntr h1' h2') (fun a b => by
    cases e : lt b a with
    | false => rfl
    | true => rw [T.asym e]; rfl) xs
  exact this.imp fun h => by simpa using h
theorem srt_perm (xs : List α) : (srt lt xs).Perm xs := List.mergeSort_perm _ _
theorem srt_uniq [T : Tot lt] {xs ys : List α} (p : ys.Perm xs) (h : ys.Pairwise fun a b => lt b a = false) : srt lt xs = ys :=
  List.Perm.eq_of_pairwise (le := fun a b => lt b a = false) (fun a b _ _ h1 h2 => T.tri a b h2 h1) (srt_pw xs) h ((srt_perm xs).trans p.symm)
theorem srt_eq_perm [T : Tot lt] {xs ys : List α} (p : ys.Perm xs) : srt lt ys = srt lt xs := srt_uniq ((srt_perm xs).trans p.symm) (srt_pw xs)
end
end FC
set_option maxHeartbeats 400000
/-! FW: while with no bound told, list(range(..)), lists of lists that are changed, literal tuples walked. -/
namespace FC
open PySem PySem.Spec PyProof.Rows L2 Evl
section
variable {S : Type}
open Classical in
noncomputable def whiL (cond : S → Option Bool) (step : S → Option S) (s : S) : Option S := if h : ∃ n r, whiF cond step n s = some r then whiF cond step h.choose s else none
theorem whiL_some {cond : S → Option Bool} {step : S → Option S} {s r : S} (h : whiL cond step s = some r) : ∃ n, whiF cond step n s = some r := by
  unfold whiL at h
  split at h
  · exact ⟨_, h⟩
  · cases h
theorem whiF_det {cond : S → Option Bool} {step : S → Option S} : ∀ {n m : Nat} {s r r' : S}, whiF cond step n s = some r → whiF cond step m s = some r' → r = r'
  | 0, _, _, _, _, h, _ => by cases h
  | _ + 1, 0, _, _, _, _, h => by cases h
  | n + 1, m + 1, s, r, r', h, h' => by
    obtain ⟨b, h1, h2⟩ := bindS h
    obtain ⟨b', g1, g2⟩ := bindS h'
    rw [h1] at g1
    cases Option.some.inj g1
    cases b with
    | true =>
      obtain ⟨s1, h3, h4⟩ := bindS h2
      obtain ⟨s2, g3, g4⟩ := bindS g2
      rw [h3] at g3
      cases Option.some.inj g3
      exact whiF_det h4 g4
    | false => exact (Option.some.inj h2).symm.trans (Option.some.inj g2)
theorem whiL_of {cond : S → Option Bool} {step : S → Option S} {n : Nat} {s r : S} (h : whiF cond step n s = some r) : whiL cond step s = some r := by
  unfold whiL
  have hx : ∃ n r, whiF cond step n s = some r := ⟨n, r, h⟩
  rw [dif_pos hx]
  obtain ⟨r', h'⟩ := hx.choose_spec
  rw [h', whiF_det h h']
end
section
variable {F : Fx} {D : Ends} {ds : List SD} {m m1 m2 m3 pre : M} {α β S : Type} {wi : TI} {g : TG} {G : M → Prop} {items : List α} {up : α → List SD → List SD} {js : List Nat} {tb tz ts : TS} {tt : TT} {K : PySem.W.Frag} {B H : Hp} {te ti to tx ta tl : TE} {f : β → PyData}
theorem wp_whiL (dF : S → List SD) (mF : S → M) {cond : S → Option Bool} {step : S → Option S} {s0 sN : S} (h : whiL cond step s0 = some sN) (hw : Wks ds (dF s0)) (hm : m = mF s0)
    (test : ∀ s b, cond s = some b → EvT F.K tt (dF s) (mF s) b (mF s))
    (body : ∀ s s', cond s = some true → step s = some s' → ∀ D', D'.rt = D.rt → (∀ σ H, At F (dF s') (mF s') σ H → D'.nx σ H) → (∀ σ H, At F (dF s') (mF s') σ H → D'.ct σ H) → Wp F tb D' (dF s) (mF s))
    (k : cond sN = some false → Wp F tz D (dF sN) (mF sN)) : Wp F (tSeq (tWhile tt tb) tz) D ds m := by
  obtain ⟨n, h2⟩ := whiL_some h
  exact wp_whi dF mF h2 hw hm test body k
/-! ### list(range(..)) -/
theorem dqa_rng (a b : Int) : DqAll B (rgV a b) ((rng a b).map dI) := by
  unfold rgV rng
  rw [List.map_map]
  generalize List.range (b - a).toNat = l
  induction l with
  | nil => exact .nil
  | cons x l ih => exact .cons (.int _) ih
theorem rgOk_of {a b : Int} {l : List Int} (h : rngG a b = some l) (hn : lenG l.length = some ()) : RgOk a b ∧ l = rng a b := by
  obtain ⟨⟨h1, h2, h3, h4⟩, h5⟩ := rngG_some h
  have h6 := lenG_some hn
  have e : l.length = (b - a).toNat := by
    rw [← h5]
    unfold rng
    rw [List.length_map, List.length_range]
  exact ⟨⟨h1, h2, h3, h4, by omega⟩, h5.symm⟩
theorem ev_listRg1 {n : Int} {l : List Int} (h : Ev K ta ds m (.da (dI n)) m1) (hr : rngG 0 n = some l) (hn : lenG l.length = some ()) : Ev K (tLstRg (tRg1 ta)) ds m (.da (dL dI l)) m1 := fun B H σ s st Q q => h B H σ s st _ fun v B1 H1 t1 s1 d1 => by
  obtain ⟨ok, e⟩ := rgOk_of hr hn
  subst e
  exact ⟨n, int_of d1, ok, fun p hp => q _ _ _ (t1.trans (Tr.data s1 hp)) (s1.data hp) (.lst upd_same (dqa_rng 0 n))⟩
theorem ev_listRg2 {i n : Int} {l : List Int} (h0 : Ev K ta ds m (.da (dI i)) m1) (h : Ev K ti ds m1 (.da (dI n)) m2) (hr : rngG i n = some l) (hn : lenG l.length = some ()) : Ev K (tLstRg (tRg2 ta ti)) ds m (.da (dL dI l)) m2 := fun B H σ s st Q q => h0 B H σ s st _ fun u B0 H0 t0 s0 d0 => h B0 H0 σ s0 (st_mono t0.ex st) _ fun v B1 H1 t1 s1 d1 => by
  obtain ⟨ok, e⟩ := rgOk_of hr hn
  subst e
  exact ⟨i, n, int_of d0, int_of d1, ok, fun p hp => q _ _ _ ((t0.trans t1).trans (Tr.data s1 hp)) (s1.data hp) (.lst upd_same (dqa_rng i n))⟩
/-! ### a list of lists, both changed -/
def nest (f : β → PyData) (l : Addr) (ps : List Addr) (dss : List (List β)) : M := if ps.length = dss.length then (l, .lr (ps.map SD.rf)) :: List.zipWith (fun p xs => (p, CD.ls (xs.map f))) ps dss else [(l, .raw (.tup []))]
theorem nest_len {l : Addr} {ps : List Addr} {dss : List (List β)} (s : SOk K B (pre ++ nest f l ps dss) H) : ps.length = dss.length := by
  by_cases h : ps.length = dss.length
  · exact h
  · exfalso
    have hm : (l, CD.raw (.tup [])) ∈ pre ++ nest f l ps dss := List.mem_append_right _ (by unfold nest; rw [if_neg h]; exact List.mem_cons_self)
    obtain ⟨o, _, hc⟩ := s.cel _ hm
    cases o <;> first | exact hc.2 _ rfl | exact hc.elim
theorem nest_eq {l : Addr} {ps : List Addr} {dss : List (List β)} (h : ps.length = dss.length) : nest f l ps dss = (l, .lr (ps.map SD.rf)) :: List.zipWith (fun p xs => (p, CD.ls (xs.map f))) ps dss := by
  unfold nest
  rw [if_pos h]
theorem nest_at {l p : Addr} {ps : List Addr} {dss : List (List β)} {i : Nat} {xs : List β} (h : ps.length = dss.length) (h1 : ps[i]? = some p) (h2 : dss[i]? = some xs) : (pre ++ nest f l ps dss)[pre.length + (i + 1)]? = some (p, .ls (xs.map f)) := by
  rw [List.getElem?_append_right (by omega), nest_eq h, Nat.add_sub_cancel_left, List.getElem?_cons_succ, List.getElem?_zipWith, h1, h2]
theorem nest_set {l p : Addr} {ps : List Addr} {dss : List (List β)} {i : Nat} {ys : List β} (h : ps.length = dss.length) (h1 : ps[i]? = some p) : (pre ++ nest f l ps dss).set (pre.length + (i + 1)) (p, .ls (ys.map f)) = pre ++ nest f l ps (dss.set i ys) := by
  rw [List.set_append_right _ _ (by omega), Nat.add_sub_cancel_left, nest_eq h, nest_eq (by rw [List.length_set]; exact h), List.set_cons_succ]
  congr 2
  refine List.ext_getElem? fun j => ?_
  rw [List.getElem?_set, List.getElem?_zipWith, List.getElem?_zipWith, List.getElem?_set]
  by_cases e : i = j
  · subst e
    rw [if_pos rfl, if_pos rfl, List.length_zipWith, h1]
    have hlt := (List.getElem?_eq_some_iff.mp h1).1
    rw [if_pos (by omega), if_pos (by omega)]
  · rw [if_neg e, if_neg e]
theorem sda_app {p : Addr} : ∀ {es : List SD} {vs : List V}, SdAll K B es vs → SdAll K B (es ++ [.rf p]) (vs ++ [.ref p])
  | [], [], _ => ⟨rfl, True.intro⟩
  | _ :: _, _ :: _, h => ⟨h.1, sda_app h.2⟩
  | [], _ :: _, h => h.elim
  | _ :: _, [], h => h.elim
theorem sda_refs : ∀ {ps : List Addr} {vs : List V}, SdAll K B (ps.map SD.rf) vs → vs = ps.map V.ref
  | [], [], _ => rfl
  | _ :: ps, _ :: vs, h => by
    have e : _ = V.ref _ := h.1
    rw [e, sda_refs h.2]
    rfl
  | [], _ :: _, h => h.elim
  | _ :: _, [], h => h.elim
theorem SOk.lr {j : Nat} {l : Addr} {es : List SD} (s : SOk K B m H) (hm : m[j]? = some (l, .lr es)) : ∃ vs, H l = some (.lst vs) ∧ SdAll K B es vs := by
  obtain ⟨o, h, c⟩ := s.at hm
  cases o <;> first | exact ⟨_, h, c⟩ | exact c.elim
theorem lcNest {vs : List Nat} (hs : Src K wi g ds m m1 G items up js) (hjs : ∀ j ∈ js, j ∈ vs) (hG : ∀ c, G (m1 ++ c)) (hn : lenG items.length = some ()) (body : ∀ x, x ∈ items → ∀ m, EvN K te (up x (wipeD ds vs)) m (.ls ([] : List PyData)) m) :
    ∀ B H σ, SOk K B m H → StOk K B ds σ → ∀ Q : VK, (∀ l ps B2 H2, Tr B H (keys m) B2 H2 (keys (m1 ++ nest f l ps (items.map fun _ => []))) → SOk K B2 (m1 ++ nest f l ps (items.map fun _ => [])) H2 → Q (.ref l) H2) → tLc wi g tYes te vs σ H Q := by
  intro B H σ s st Q q
  have hn := lenG_some hn
  refine hs B H σ s st _ fun J B1 H1 t1 s1 T D hD => ?_
  refine ⟨fun i k H' => k = items.length - i ∧ i ≤ items.length ∧ ∃ B' ps, Tr B H (keys m) B' H' (keys (m1 ++ nest f D ps ((items.take i).map fun _ => []))) ∧ Ex B1 B' ∧ SOk K B' (m1 ++ nest f D ps ((items.take i).map fun _ => [])) H',
    ⟨items.length, by simp, Nat.zero_le _, B1, [], t1.trans (Tr.cell s1 hD), Ex.refl _, s1.cell hD (show CdOk K B1 (.lr (([] : List Addr).map SD.rf)) (.lst []) from True.intro)⟩, ?_⟩
  rintro i k H' ⟨rfl, hi, B', ps, tr, eB, sk⟩
  have hlen := nest_len sk
  by_cases hlt : i < items.length
  · refine .inr ⟨T.1 i H' B' _ hlt eB (hG _) sk, fun H'' => i + 1 ≤ items.length ∧ ∃ B' ps, Tr B H (keys m) B' H'' (keys (m1 ++ nest f D ps ((items.take (i + 1)).map fun _ => []))) ∧ Ex B1 B' ∧ SOk K B' (m1 ++ nest f D ps ((items.take (i + 1)).map fun _ => [])) H'',
      fun H'' p => ⟨items.length - (i + 1), by omega, rfl, p⟩, fun x H'' hy => ?_⟩
    have hx : items[i]? = some items[i] := List.getElem?_eq_getElem hlt
    refine T.2.2 i items[i] x H' H'' B' _ (wipeD ds vs) (wipe σ vs) hx eB (hG _) sk (st_wipe (st_mono (t1.ex.trans eB) st) vs) hy _ fun B2 σ2 t2 s2 st2 hset => ⟨wipe_sets hset hjs, ?_⟩
    refine et_yes B2 H'' σ2 s2 st2 _ fun B3 H3 t3 s3 => iteT ?_
    refine body items[i] (List.getElem_mem hlt) _ B3 H3 σ2 s3 (st_mono t3.ex st2) _ fun p B4 H4 t4 s4 => ?_
    have hjD : ((m1 ++ nest f D ps ((items.take i).map fun _ => [])) ++ [(p, CD.ls [])])[m1.length]? = some (D, .lr (ps.map SD.rf)) := by
      rw [List.append_assoc, List.getElem?_append_right (Nat.le_refl _), Nat.sub_self, nest_eq hlen]
      rfl
    obtain ⟨ws, hw, hwa⟩ := s4.lr hjD
    have hwl : ws.length = ps.length := by rw [sda_refs hwa, List.length_map]
    have hil : (items.take i).length = i := by rw [List.length_take]; omega
    rw [List.length_map, hil] at hlen
    have hset2 : ((m1 ++ nest f D ps ((items.take i).map fun _ => [])) ++ [(p, CD.ls [])]).set m1.length (D, .lr ((ps ++ [p]).map SD.rf)) = m1 ++ nest f D (ps ++ [p]) ((items.take (i + 1)).map fun _ => []) := by
      rw [List.append_assoc, List.set_append_right _ _ (Nat.le_refl _), Nat.sub_self, nest_eq (by rw [List.length_map, hil]; exact hlen), nest_eq (by rw [List.length_append, List.length_map, List.length_take]; show ps.length + 1 = _; omega)]
      have e : items.take (i + 1) = items.take i ++ [items[i]] := (List.take_append_getElem hlt).symm
      rw [e, List.map_append, List.map_append, List.zipWith_append (by rw [List.length_map, hil]; exact hlen)]
      rfl
    have hcd : CdOk K B4 (.lr ((ps ++ [p]).map SD.rf)) (.lst (ws ++ [.ref p])) := by
      rw [List.map_append]
      exact sda_app hwa
    have t5 := Tr.put s4 hjD hcd
    have s5 := s4.put hjD hcd
    rw [hset2] at t5 s5
    exact ⟨ws, hw, by rw [sizeLine_eq]; omega, hlt, B4, ps ++ [p], (((tr.trans t2).trans t3).trans t4).trans t5, ((eB.trans t2.ex).trans t3.ex).trans t4.ex, s5⟩
  · have e : i = items.length := by omega
    subst e
    rw [List.take_length] at tr sk
    refine .inl ⟨T.2.1 H' B' _ eB (hG _) sk, q D ps B' H' tr sk⟩
theorem wp_asgNest (f : β → PyData) {i : Nat} {dss : List (List β)}
    (hc : ∀ B H σ, SOk F.K B m H → StOk F.K B ds σ → ∀ Q : VK, (∀ l ps B2 H2, Tr B H (keys m) B2 H2 (keys (m1 ++ nest f l ps dss)) → SOk F.K B2 (m1 ++ nest f l ps dss) H2 → Q (.ref l) H2) → te σ H Q) (hm : keys m1 = keys m)
    (k : ∀ l ps, l ∉ F.k0 → (∀ p ∈ ps, p ∉ F.k0) → Wp F tz D (ds.set i (.rf l)) (m1 ++ nest f l ps dss)) : Wp F (tSeq (tAsg te (gName i)) tz) D ds m := fun σ H ⟨B, st, s, t, lo⟩ =>
  hc B H σ s st _ fun l ps B2 H2 t2 s2 => by
    have hlen := nest_len s2
    have new : ∀ a ∈ keys (nest f l ps dss), a ∉ F.k0 := fun a ha z => by
      have h1 : a ∈ keys (m1 ++ nest f l ps dss) := by
        show a ∈ List.map _ _
        rw [List.map_append]
        exact List.mem_append_right _ ha
      rcases t2.kys a h1 with h2 | h2
      · have nd : (List.map (fun p : Addr × CD => p.1) (m1 ++ nest f l ps dss)).Nodup := s2.nd
        rw [List.map_append] at nd
        exact (List.nodup_append.mp nd).2.2 a (by have h3 : a ∈ keys m1 := by rw [hm]; exact h2
                                                  exact h3) a ha rfl
      · exact absurd h2 (t.grow a (F.hk a z))
    refine k l ps (new l ?_) (fun p hp => new p ?_) _ H2 ⟨B2, st_set i (st_mono t2.ex st) (sl_of (s := .rf l) rfl), s2, t.trans t2, lo.trans t2.ex⟩
    · rw [nest_eq hlen]
      exact List.mem_cons_self
    · rw [nest_eq hlen]
      refine List.mem_cons_of_mem _ ?_
      obtain ⟨j, hj⟩ := List.mem_iff_getElem?.mp hp
      have hjl : j < dss.length := by rw [← hlen]; exact (List.getElem?_eq_some_iff.mp hj).1
      refine List.mem_map.mpr ⟨(p, CD.ls (dss[j].map f)), List.mem_of_getElem? (i := j) ?_, rfl⟩
      rw [List.getElem?_zipWith, hj, List.getElem?_eq_getElem hjl]
/-- the inner ones frozen -/
theorem frz_all {l : Addr} {es : List SD} {k : List Addr} {B0 H0 : Hp} (hk : ∀ a ∈ k, H0 a ≠ none) : ∀ {ps : List Addr} {dss : List (List β)} {B : Hp}, ps.length = dss.length → (∀ p ∈ ps, p ∉ k) → SOk K B (pre ++ (l, .lr es) :: List.zipWith (fun p xs => (p, CD.ls (xs.map f))) ps dss) H →
    Tr B0 H0 k B H (keys (pre ++ (l, .lr es) :: List.zipWith (fun p xs => (p, CD.ls (xs.map f))) ps dss)) → ∃ B', Ex B B' ∧ SOk K B' (pre ++ [(l, .lr es)]) H ∧ Tr B0 H0 k B' H (keys (pre ++ [(l, .lr es)])) ∧ DqAll B' (ps.map V.ref) (dss.map (dL f))
  | [], [], B, _, _, s, t => ⟨B, Ex.refl _, s, t, .nil⟩
  | [], _ :: _, _, h, _, _, _ => by cases h
  | _ :: _, [], _, h, _, _, _ => by cases h
  | p :: ps, xs :: dss, B, h, hp, s, t => by
    have hj : (pre ++ (l, CD.lr es) :: List.zipWith (fun p xs => (p, CD.ls (xs.map f))) (p :: ps) (xs :: dss))[pre.length + 1]? = some (p, .ls (xs.map f)) := by
      rw [List.getElem?_append_right (by omega), Nat.add_sub_cancel_left]
      rfl
    have he : (pre ++ (l, CD.lr es) :: List.zipWith (fun p xs => (p, CD.ls (xs.map f))) (p :: ps) (xs :: dss)).eraseIdx (pre.length + 1) = pre ++ (l, CD.lr es) :: List.zipWith (fun p xs => (p, CD.ls (xs.map f))) ps dss := by
      rw [List.eraseIdx_append_of_length_le (by omega), Nat.add_sub_cancel_left]
      rfl
    obtain ⟨ws, h1, h2⟩ := s.ls hj
    have hB : B p = none := s.out (p, .ls (xs.map f)) (List.mem_of_getElem? hj)
    have s2 := s.frz hj h1
    have t2 := t.frz s hk (o := .lst ws) hj (hp p List.mem_cons_self)
    rw [he] at s2 t2
    have ee := Ex.new (o := HO.lst ws) hB
    obtain ⟨B', e, s3, t3, d3⟩ := frz_all hk (ps := ps) (dss := dss) (Nat.succ.inj h) (fun q hq => hp q (List.mem_cons_of_mem _ hq)) s2 t2
    exact ⟨B', ee.trans e, s3, t3, .cons (Dq.lst (e _ _ upd_same) (dpa_mono (ee.trans e) h2)) d3⟩
theorem wp_frzN {i : Nat} {l : Addr} {ps : List Addr} {dss : List (List β)} (hi : ds[i]? = some (.rf l)) (hl : l ∉ F.k0) (hps : ∀ p ∈ ps, p ∉ F.k0) (k : Wp F ts D (ds.set i (.da (dL (dL f) dss))) pre) : Wp F ts D ds (pre ++ nest f l ps dss) := fun σ H ⟨B, st, s, t, lo⟩ => by
  have hlen := nest_len s
  rw [nest_eq hlen] at s t
  obtain ⟨B', e1, s1, t1, d1⟩ := frz_all F.hk hlen hps s t
  have hj : (pre ++ [(l, CD.lr (ps.map SD.rf))])[pre.length]? = some (l, .lr (ps.map SD.rf)) := by
    rw [List.getElem?_append_right (Nat.le_refl _), Nat.sub_self]
    rfl
  obtain ⟨vs, h1, h2⟩ := s1.lr hj
  have hB : B' l = none := s1.out (l, .lr (ps.map SD.rf)) (List.mem_of_getElem? hj)
  have s2 := s1.frz hj h1
  have t2 := t1.frz s1 F.hk (o := .lst vs) hj hl
  have he : (pre ++ [(l, CD.lr (ps.map SD.rf))]).eraseIdx pre.length = pre := by
    rw [List.eraseIdx_append_of_length_le (Nat.le_refl _), Nat.sub_self]
    exact List.append_nil _
  rw [he] at s2 t2
  have ee := Ex.new (o := HO.lst vs) hB
  obtain ⟨o, e, w⟩ := st_get st hi
  obtain ⟨v, rfl, w⟩ := sl_some (s := .rf l) (fun z => nomatch z) w
  have ev : v = .ref l := w
  subst ev
  have hd : DqAll (upd B' l (.lst vs)) vs (dss.map (dL f)) := by
    have e2 := sda_refs h2
    rw [← e2] at d1
    exact dpa_mono ee d1
  have st2 := st_set (K := F.K) i (st_mono (e1.trans ee) st) (s := .da (dL (dL f) dss)) (o := some (.ref l)) (Dq.lst upd_same hd)
  rw [set_same e] at st2
  exact k σ H ⟨_, st2, s2, t2, lo.trans (e1.trans ee)⟩
/-- xss[i].append(x) -/
def napp (dss : List (List β)) (i : Int) (x : β) : Option (List (List β)) := (ixN dss.length i).bind fun j => (dss[j]?).bind fun d => (lenG d.length).bind fun _ => some (dss.set j (d ++ [x]))
theorem ev_napp {l : Addr} {ps : List Addr} {dss dss' : List (List β)} {i : Int} {x : β} {t : TA} (ho : Ev K to ds m (.rf l) m1) (hi : Ev K ti ds m1 (.da (dI i)) (pre ++ nest f l ps dss)) (h : EvA K t ds (pre ++ nest f l ps dss) [.da (f x)] (pre ++ nest f l ps dss)) (hn : napp dss i x = some dss') :
    Ev K (tBM K "list" rAppend (tOp (rIxL K) to ti) t) ds m (.da .none) (pre ++ nest f l ps dss') := fun B H σ s st Q q =>
  ho B H σ s st _ fun u B1 H1 t1 s1 d1 => hi B1 H1 σ s1 (st_mono t1.ex st) _ fun y B2 H2 t2 s2 d2 => by
    have eu : u = .ref l := d1
    subst eu
    have hlen := nest_len s2
    obtain ⟨j, e1, hn⟩ := bindS hn
    obtain ⟨d, e2, hn⟩ := bindS hn
    obtain ⟨_, e3, hn⟩ := bindS hn
    have e4 := Option.some.inj hn
    subst e4
    have hjl : j < ps.length := by rw [hlen]; exact (List.getElem?_eq_some_iff.mp e2).1
    have hp := List.getElem?_eq_getElem hjl
    have hj0 : (pre ++ nest f l ps dss)[pre.length]? = some (l, .lr (ps.map SD.rf)) := by
      rw [List.getElem?_append_right (Nat.le_refl _), Nat.sub_self, nest_eq hlen]
      rfl
    obtain ⟨vs, h1, h2⟩ := s2.lr hj0
    have ev := sda_refs h2
    subst ev
    have hat : atI (ps.map V.ref) i = some (.ref ps[j]) := by
      unfold atI
      rw [List.length_map, hlen, e1]
      show (ps.map V.ref)[j]? = _
      rw [List.getElem?_map, hp]
      rfl
    refine ⟨l, ps.map V.ref, i, .ref ps[j], rfl, int_of d2, SqL.of h1, hat, ?_⟩
    have hjj := nest_at (pre := pre) (f := f) (l := l) hlen hp e2
    obtain ⟨ws, g1, g2⟩ := s2.ls hjj
    refine ⟨tyv_of (B := B2) g1, h B2 H2 σ s2 (st_mono (t1.ex.trans t2.ex) st) _ fun as B3 H3 t3 s3 d3 => ?_⟩
    refine rm_app (pre.length + (j + 1)) hjj e3 B3 H3 _ _ s3 rfl d3 Q fun v B4 H4 t4 s4 d4 => ?_
    rw [nest_set hlen hp] at t4 s4
    exact q v B4 H4 (((t1.trans t2).trans t3).trans t4) s4 d4
theorem eqv_non_l {d : PyData} (h : d ≠ .none) : PyData.eqv .none d = false := by
  cases d <;> first | exact absurd rfl h | rfl | simp [PyData.eqv]
theorem eqv_non_r {d : PyData} (h : d ≠ .none) : PyData.eqv d .none = false := by
  cases d <;> first | exact absurd rfl h | rfl | simp [PyData.eqv]
instance instEncO {α : Type} {f : α → PyData} [DecidableEq α] [Enc f] [NotNo f] : Enc (dO f) where
  plain o := by
    cases o with
    | none => rfl
    | some a => exact Enc.plain a
  eqv a b := by
    cases a with
    | none =>
      cases b with
      | none => rfl
      | some b => exact (eqv_non_l (NotNo.no b)).trans (decide_eq_false (fun z => nomatch z)).symm
    | some a =>
      cases b with
      | none => exact (eqv_non_r (NotNo.no a)).trans (decide_eq_false (fun z => nomatch z)).symm
      | some b =>
        show PyData.eqv (f a) (f b) = _
        rw [Enc.eqv]
        exact decide_eq_decide.mpr ⟨fun e => by rw [e], fun e => Option.some.inj e⟩
  dep := Enc.dep f
  dep_le o := by
    cases o with
    | none => exact Nat.zero_le _
    | some a => exact Enc.dep_le a
theorem rr_catU {α : Type} {f : α → PyData} {xs ys : List α} (hz : lenG (xs.length + ys.length) = some ()) : Rr K (rCatA K) (.da (dU f xs)) (.da (dU f ys)) m (.da (dU f (xs ++ ys))) m := fun B H x y s dx dy Q q => by
  obtain ⟨p, vs, rfl, hp, ha⟩ := tup_of dx
  obtain ⟨p2, vs2, rfl, hp2, ha2⟩ := tup_of dy
  have h1 := dpa_len ha
  have h2 := dpa_len ha2
  have h3 := lenG_some hz
  rw [List.length_map] at h1 h2
  refine ⟨p, p2, vs, vs2, rfl, rfl, SqT.of (s.ext _ _ hp), SqT.of (s.ext _ _ hp2), by rw [sizeLine_eq]; omega, fun e => ?_, fun _ e => ?_, fun _ _ l hl => q _ _ _ (Tr.data s hl) (s.data hl) (Dq.tup upd_same (dpa_mono (Ex.new (fresh_b s hl)) ?_))⟩
  · have e1 : xs = [] := by
      rw [e] at h1
      exact List.length_eq_zero_iff.mp h1.symm
    subst e1
    exact q _ _ _ (Tr.refl _ _ _) s dy
  · have e1 : ys = [] := by
      rw [e] at h2
      exact List.length_eq_zero_iff.mp h2.symm
    subst e1
    rw [List.append_nil] at q
    exact q _ _ _ (Tr.refl _ _ _) s dx
  · rw [List.map_append]
    exact dqa_app ha ha2
theorem src_UP {α : Type} {f : α → PyData} {f2 : β → PyData} {xs : List (α × β)} {j k : Nat} (h : Ev K tl ds m (.da (dU (dP f f2) xs)) m1) : Src K (iTup K tl) (gTup K 2 (gCons (gName j) (gCons (gName k) gNil))) ds m m1 (fun _ => True) xs (fun p ds => (ds.set j (.da (f p.1))).set k (.da (f2 p.2))) ([j] ++ [k]) := fun B H σ s st R q => h B H σ s st _ fun v B1 H1 t1 s1 d1 => by
  obtain ⟨p, vs, rfl, hp, ha⟩ := tup_of d1
  have hl := dpa_len ha
  rw [List.length_map] at hl
  have hL : ∀ {H B' m'}, Ex B1 B' → SOk K B' m' H → SqT K H p vs := fun e s => SqT.of (s.ext _ _ (e _ _ hp))
  refine ⟨p, rfl, ⟨vs, SqT.of (s1.ext _ _ hp)⟩, q _ B1 H1 t1 s1 ⟨fun i H B' m' hi e g s => ?_, fun H B' m' e g s => ⟨vs, hL e s, Nat.le_of_eq hl⟩, fun i x v H H' B' m' ds σ hx e g s st hy Q q => ?_⟩⟩
  · have hi' : i < vs.length := by omega
    exact ⟨vs, vs[i], hL e s, List.getElem?_eq_getElem hi'⟩
  · obtain ⟨rfl, y2⟩ := hy
    obtain ⟨w, h1, h2⟩ := dqa_some ha hx
    have h3 := y2 vs (hL e s)
    rw [h1] at h3
    have e3 := Option.some.inj h3
    subst e3
    obtain ⟨T, x1, x2, rfl, h4, h5, h6⟩ := pair_of (K := K) (show SdOk K B1 (.da (dP f f2 x)) w from h2)
    refine ⟨T, [x1, x2], rfl, SqT.of (s.ext _ _ (e _ _ h4)), rfl, x1, [x2], rfl, x2, [], rfl, rfl, ?_⟩
    exact q B' _ (Tr.refl _ _ _) s (st_set k (st_set j st (sl_of (s := .da (f x.1)) (dp_mono e h5))) (sl_of (s := .da (f2 x.2)) (dp_mono e h6))) (sets1.trans sets1)
end
end FC
set_option maxHeartbeats 400000
/-! FO: instances of the program's own classes: fields, methods, making. -/
namespace FC
open PySem PySem.Spec PyProof.Rows L2 Evl
/-- an instance: its fields by the class's names, in the order of their first store -/
def obj (C dx : Addr) (names : List Str) (sds : List SD) : CD := .ins C dx (names.zip sds)
/-- f stands at i among the names, not ahead of it -/
def PutAt (f : Str) (names : List Str) (i : Nat) : Prop := names[i]? = some f ∧ f ∉ names.take i
instance (f : Str) (names : List Str) (i : Nat) : Decidable (PutAt f names i) := by unfold PutAt; infer_instance
section
variable {K : PySem.W.Frag} {B H : Hp} {α : Type}
theorem lookup_at {f : Str} : ∀ {ws : List (Str × V)} {i : Nat} {v : V}, ws[i]? = some (f, v) → f ∉ (ws.take i).map (·.1) → ws.lookup f = some v
  | [], _, _, h, _ => by simp at h
  | (g, x) :: ws, 0, v, h, _ => by
    have e := Option.some.inj h
    cases e
    simp [List.lookup]
  | (g, x) :: ws, i + 1, v, h, hn => by
    rw [List.take_succ_cons, List.map_cons, List.mem_cons, not_or] at hn
    have hb : (f == g) = false := beq_eq_false_iff_ne.mpr hn.1
    show (match f == g with | true => some x | false => List.lookup f ws) = some v
    rw [hb]
    exact lookup_at (i := i) h hn.2
theorem lookup_no {f : Str} : ∀ {ws : List (Str × V)}, f ∉ ws.map (·.1) → ws.lookup f = none
  | [], _ => rfl
  | (g, x) :: ws, hn => by
    rw [List.map_cons, List.mem_cons, not_or] at hn
    have hb : (f == g) = false := beq_eq_false_iff_ne.mpr hn.1
    show (match f == g with | true => some x | false => List.lookup f ws) = none
    rw [hb]
    exact lookup_no hn.2
theorem putF_at {f : Str} {y : V} : ∀ {ws : List (Str × V)} {i : Nat} {v : V}, ws[i]? = some (f, v) → f ∉ (ws.take i).map (·.1) → putF f y ws = ws.set i (f, y)
  | [], _, _, h, _ => by simp at h
  | (g, x) :: ws, 0, v, h, _ => by
    have e := Option.some.inj h
    cases e
    show (if f = f then (f, y) :: ws else _) = _
    rw [if_pos rfl]
    rfl
  | (g, x) :: ws, i + 1, v, h, hn => by
    rw [List.take_succ_cons, List.map_cons, List.mem_cons, not_or] at hn
    show (if g = f then (g, y) :: ws else (g, x) :: putF f y ws) = _
    rw [if_neg (fun e => hn.1 e.symm), putF_at (i := i) h hn.2]
    rfl
theorem putF_new {f : Str} {y : V} : ∀ {ws : List (Str × V)}, f ∉ ws.map (·.1) → putF f y ws = ws ++ [(f, y)]
  | [], _ => rfl
  | (g, x) :: ws, hn => by
    rw [List.map_cons, List.mem_cons, not_or] at hn
    show (if g = f then (g, y) :: ws else (g, x) :: putF f y ws) = _
    rw [if_neg (fun e => hn.1 e.symm), putF_new hn.2]
    rfl
/-- the heap's fields against the told ones -/
theorem fs_of : ∀ {names : List Str} {sds : List SD} {ws : List (Str × V)}, FsOk K B (names.zip sds) ws → sds.length ≤ names.length → ∃ vs, SdAll K B sds vs ∧ ws = names.zip vs ∧ vs.length = sds.length
  | _, [], [], _, _ => ⟨[], True.intro, by simp, rfl⟩
  | [], _ :: _, _, _, hl => by simp at hl
  | n :: names, s :: sds, w :: ws, h, hl => by
    obtain ⟨vs, h1, h2, h3⟩ := fs_of (names := names) (sds := sds) (ws := ws) h.2 (by simpa using hl)
    refine ⟨w.2 :: vs, ⟨h.1.2, h1⟩, ?_, by rw [List.length_cons, List.length_cons, h3]⟩
    have e : n = w.1 := h.1.1
    rw [List.zip_cons_cons, ← h2, e]
  | n :: names, s :: sds, [], h, _ => h.elim
  | [], [], _ :: _, h, _ => h.elim
  | _ :: _, [], _ :: _, h, _ => h.elim
theorem of_fs : ∀ {names : List Str} {sds : List SD} {vs : List V}, SdAll K B sds vs → FsOk K B (names.zip sds) (names.zip vs)
  | [], _, _, _ => by simp [FsOk]
  | _ :: _, [], [], _ => True.intro
  | n :: names, s :: sds, v :: vs, h => ⟨⟨rfl, h.1⟩, of_fs h.2⟩
  | _ :: _, [], _ :: _, h => h.elim
  | _ :: _, _ :: _, [], h => h.elim
theorem sda_at : ∀ {sds : List SD} {vs : List V} {i : Nat} {s : SD}, SdAll K B sds vs → sds[i]? = some s → ∃ v, vs[i]? = some v ∧ SdOk K B s v
  | _ :: _, _ :: _, 0, _, h, e => by
    cases Option.some.inj e
    exact ⟨_, rfl, h.1⟩
  | _ :: sds, _ :: vs, i + 1, s, h, e => sda_at (sds := sds) (vs := vs) (i := i) h.2 e
  | [], [], _, _, _, e => by simp at e
  | [], _ :: _, _, _, h, _ => h.elim
  | _ :: _, [], _, _, h, _ => h.elim
theorem sda_set : ∀ {sds : List SD} {vs : List V} {i : Nat} {s : SD} {v : V}, SdAll K B sds vs → SdOk K B s v → SdAll K B (sds.set i s) (vs.set i v)
  | _ :: _, _ :: _, 0, _, _, h, d => ⟨d, h.2⟩
  | _ :: sds, _ :: vs, i + 1, s, v, h, d => ⟨h.1, sda_set (sds := sds) (vs := vs) (i := i) h.2 d⟩
  | [], [], _, _, _, h, _ => True.intro
  | [], _ :: _, _, _, _, h, _ => h.elim
  | _ :: _, [], _, _, _, h, _ => h.elim
theorem sda_snoc {s : SD} {v : V} : ∀ {sds : List SD} {vs : List V}, SdAll K B sds vs → SdOk K B s v → SdAll K B (sds ++ [s]) (vs ++ [v])
  | [], [], _, d => ⟨d, True.intro⟩
  | _ :: _, _ :: _, h, d => ⟨h.1, sda_snoc h.2 d⟩
  | [], _ :: _, h, _ => h.elim
  | _ :: _, [], h, _ => h.elim
theorem SOk.ob {m : M} {j : Nat} {p C dx : Addr} {names : List Str} {sds : List SD} (s : SOk K B m H) (hm : m[j]? = some (p, obj C dx names sds)) (hl : sds.length ≤ names.length) : ∃ vs, H p = some (.ins C dx (names.zip vs)) ∧ SdAll K B sds vs ∧ vs.length = sds.length := by
  obtain ⟨o, h, c⟩ := s.at hm
  unfold obj at c
  cases o with
  | ins C' dx' ws =>
    obtain ⟨rfl, rfl, c⟩ := c
    obtain ⟨vs, h1, rfl, h3⟩ := fs_of c hl
    exact ⟨vs, h, h1, h3⟩
  | _ => exact c.elim
theorem zip_at {names : List Str} {vs : List V} {i : Nat} {f : Str} {v : V} (h : PutAt f names i) (hv : vs[i]? = some v) : (names.zip vs)[i]? = some (f, v) ∧ f ∉ ((names.zip vs).take i).map (·.1) := by
  refine ⟨by rw [List.getElem?_zip_eq_some]; exact ⟨h.1, hv⟩, fun z => h.2 ?_⟩
  obtain ⟨q, hq, e⟩ := List.mem_map.mp z
  obtain ⟨k, hk⟩ := List.mem_iff_getElem?.mp hq
  rw [List.getElem?_take] at hk
  split at hk
  · rename_i hlt
    obtain ⟨h1, _⟩ := List.getElem?_zip_eq_some.mp hk
    refine List.mem_iff_getElem?.mpr ⟨k, ?_⟩
    rw [List.getElem?_take, if_pos hlt, h1, e]
  · cases hk
theorem zip_keys {names : List Str} {vs : List V} {f : Str} (h : f ∉ names) : f ∉ (names.zip vs).map (·.1) := fun z => h (by
  obtain ⟨q, hq, e⟩ := List.mem_map.mp z
  rw [← e]
  exact (List.of_mem_zip hq).1)
variable {F : Fx} {D : Ends} {ds : List SD} {m m1 m2 m' pre post mc mc' : M} {ta te : TE} {t : TA} {tz : TS} {sd sd' : SD} {rs : List SD} {c : SD} {G : Pf} {E : XK} {p C dx : Addr} {names : List Str} {sds : List SD} {f : Str}
/-- o.f -/
theorem ev_fld (j i : Nat) (ho : Ev K ta ds m (.rf p) m1) (hj : m1[j]? = some (p, obj C dx names sds)) (hi : sds[i]? = some sd) (hp : PutAt f names i) (hl : sds.length ≤ names.length) (c : Cls K C) (n : NoAttr K C f) : Ev K (tFld K ta f) ds m sd m1 := fun B H σ s st Q q =>
  ho B H σ s st _ fun x B1 H1 t1 s1 d1 => by
    have e : x = .ref p := d1
    subst e
    obtain ⟨vs, h1, h2, _⟩ := s1.ob hj hl
    obtain ⟨v, h3, h4⟩ := sda_at h2 hi
    obtain ⟨g1, g2⟩ := zip_at hp h3
    exact ⟨p, C, dx, _, v, rfl, h1, c, n, lookup_at g1 g2, q v B1 H1 t1 s1 h4⟩
theorem put_obj {v : V} {m : M} (s : SOk K B m H) {j i : Nat} {old : SD} (hj : m[j]? = some (p, obj C dx names sds)) (hi : sds[i]? = some old) (hp : PutAt f names i) (hl : sds.length ≤ names.length) (d : SdOk K B sd v) :
    ∃ vs, H p = some (.ins C dx (names.zip vs)) ∧ (names.zip vs).length < 1000 + names.length ∧ CdOk K B (obj C dx names (sds.set i sd)) (.ins C dx (putF f v (names.zip vs))) := by
  obtain ⟨vs, h1, h2, h3⟩ := s.ob hj hl
  obtain ⟨w, h4, _⟩ := sda_at h2 hi
  obtain ⟨g1, g2⟩ := zip_at hp h4
  refine ⟨vs, h1, by rw [List.length_zip]; omega, rfl, rfl, ?_⟩
  rw [putF_at g1 g2]
  have e : (names.zip vs).set i (f, v) = names.zip (vs.set i v) := by
    refine List.ext_getElem? fun k => ?_
    by_cases ek : i = k
    · subst ek
      have hlt : i < (names.zip vs).length := (List.getElem?_eq_some_iff.mp g1).1
      have hlt2 : i < vs.length := (List.getElem?_eq_some_iff.mp h4).1
      rw [List.getElem?_set_self hlt]
      exact (List.getElem?_zip_eq_some.mpr ⟨hp.1, by rw [List.getElem?_set_self hlt2]⟩).symm
    · rw [List.getElem?_set_ne ek]
      cases hn : names[k]? with
      | none =>
        have : (names.zip vs)[k]? = none := List.getElem?_eq_none (by rw [List.length_zip]; have := List.getElem?_eq_none_iff.mp hn; omega)
        rw [this]
        exact (List.getElem?_eq_none (by rw [List.length_zip]; have := List.getElem?_eq_none_iff.mp hn; omega)).symm
      | some nm =>
        cases hv : vs[k]? with
        | none =>
          have : (names.zip vs)[k]? = none := List.getElem?_eq_none (by rw [List.length_zip]; have := List.getElem?_eq_none_iff.mp hv; omega)
          rw [this]
          exact (List.getElem?_eq_none (by rw [List.length_zip, List.length_set]; have := List.getElem?_eq_none_iff.mp hv; omega)).symm
        | some u =>
          rw [(List.getElem?_zip_eq_some (z := (nm, u))).mpr ⟨hn, hv⟩]
          exact ((List.getElem?_zip_eq_some (z := (nm, u))).mpr ⟨hn, by rw [List.getElem?_set_ne ek]; exact hv⟩).symm
  rw [e]
  exact of_fs (sda_set h2 d)
/-- o.f = e -/
theorem wp_fld (j i : Nat) {old : SD} (hv : Ev F.K te ds m sd m1) (ho : Ev F.K ta ds m1 (.rf p) m2) (hj : m2[j]? = some (p, obj C dx names sds)) (hi : sds[i]? = some old) (hp : PutAt f names i) (hl : sds.length ≤ names.length) (hn : names.length < 500) (c : Cls F.K C) (n : NoAttr F.K C f)
    (k : Wp F tz D ds (m2.set j (p, obj C dx names (sds.set i sd)))) : Wp F (tSeq (sFld F.K ta te f) tz) D ds m := fun σ H ⟨B, st, s, t, lo⟩ =>
  hv B H σ s st _ fun v B1 H1 t1 s1 d1 => ho B1 H1 σ s1 (st_mono t1.ex st) _ fun x B2 H2 t2 s2 d2 => by
    have e : x = .ref p := d2
    subst e
    obtain ⟨vs, h1, h2, h3⟩ := put_obj s2 hj hi hp hl (sd_mono t2.ex d1)
    refine ⟨p, C, dx, _, rfl, h1, c, n, by rw [List.length_zip]; omega, ?_⟩
    exact k σ _ ⟨B2, st_mono (t1.ex.trans t2.ex) st, s2.put hj h3, ((t.trans t1).trans t2).trans (Tr.put s2 hj h3), lo.trans (t1.ex.trans t2.ex)⟩
theorem new_obj {v : V} {m : M} (s : SOk K B m H) {j : Nat} (hj : m[j]? = some (p, obj C dx names sds)) (hp : PutAt f names sds.length) (d : SdOk K B sd v) :
    ∃ vs, H p = some (.ins C dx (names.zip vs)) ∧ CdOk K B (obj C dx names (sds ++ [sd])) (.ins C dx (putF f v (names.zip vs))) := by
  have hlt : sds.length < names.length := (List.getElem?_eq_some_iff.mp hp.1).1
  obtain ⟨vs, h1, h2, h3⟩ := s.ob hj (by omega)
  refine ⟨vs, h1, rfl, rfl, ?_⟩
  have e : names.zip (vs ++ [v]) = names.zip vs ++ [(f, v)] := by
    have e0 : names = names.take sds.length ++ f :: names.drop (sds.length + 1) := by
      have e1 : names[sds.length] = f := by
        have := hp.1
        rw [List.getElem?_eq_getElem hlt] at this
        exact Option.some.inj this
      rw [← e1, ← List.drop_eq_getElem_cons hlt, List.take_append_drop]
    generalize hA : names.take sds.length = A at e0
    have hAl : A.length = vs.length := by rw [← hA, List.length_take, h3]; omega
    rw [e0, List.zip_append hAl]
    have e2 : (A ++ f :: names.drop (sds.length + 1)).zip vs = A.zip vs := by
      have : vs = vs ++ [] := (List.append_nil vs).symm
      rw [this, List.zip_append hAl, List.append_nil]
      simp
    rw [e2, List.zip_cons_cons, List.zip_nil_right]
  rw [putF_new (fun z => hp.2 ?_), ← e]
  · exact of_fs (sda_snoc h2 d)
  · obtain ⟨q, hq, e2⟩ := List.mem_map.mp z
    obtain ⟨k, hk⟩ := List.mem_iff_getElem?.mp hq
    obtain ⟨g1, g2⟩ := List.getElem?_zip_eq_some.mp hk
    have hkl : k < vs.length := (List.getElem?_eq_some_iff.mp g2).1
    refine List.mem_iff_getElem?.mpr ⟨k, ?_⟩
    rw [List.getElem?_take, if_pos (by omega), g1, e2]
/-- o.f = e, a field's first store -/
theorem wp_fld0 (j : Nat) (hv : Ev F.K te ds m sd m1) (ho : Ev F.K ta ds m1 (.rf p) m2) (hj : m2[j]? = some (p, obj C dx names sds)) (hp : PutAt f names sds.length) (hn : names.length < 500) (c : Cls F.K C) (n : NoAttr F.K C f)
    (k : Wp F tz D ds (m2.set j (p, obj C dx names (sds ++ [sd])))) : Wp F (tSeq (sFld F.K ta te f) tz) D ds m := fun σ H ⟨B, st, s, t, lo⟩ =>
  hv B H σ s st _ fun v B1 H1 t1 s1 d1 => ho B1 H1 σ s1 (st_mono t1.ex st) _ fun x B2 H2 t2 s2 d2 => by
    have e : x = .ref p := d2
    subst e
    obtain ⟨vs, h1, h3⟩ := new_obj s2 hj hp (sd_mono t2.ex d1)
    refine ⟨p, C, dx, _, rfl, h1, c, n, by rw [List.length_zip]; omega, ?_⟩
    exact k σ _ ⟨B2, st_mono (t1.ex.trans t2.ex) st, s2.put hj h3, ((t.trans t1).trans t2).trans (Tr.put s2 hj h3), lo.trans (t1.ex.trans t2.ex)⟩
/-- o.f = e, a field's first store, a new cell -/
theorem wp_fld0N (j : Nat) {cd : CD} (hv : EvN F.K te ds m cd m1) (ho : ∀ m, Ev F.K ta ds m (.rf p) m) (hj : m1[j]? = some (p, obj C dx names sds)) (hp : PutAt f names sds.length) (hn : names.length < 500) (c : Cls F.K C) (n : NoAttr F.K C f) (hm : keys m1 = keys m)
    (k : ∀ l, l ∉ F.k0 → Wp F tz D ds ((m1 ++ [(l, cd)]).set j (p, obj C dx names (sds ++ [.rf l])))) : Wp F (tSeq (sFld F.K ta te f) tz) D ds m := fun σ H ⟨B, st, s, t, lo⟩ =>
  hv B H σ s st _ fun l B1 H1 t1 s1 => by
    have hnew : H l = none := by
      have h1 : l ∈ keys (m1 ++ [(l, cd)]) := by rw [keys_app]; exact List.mem_append_right _ (List.mem_singleton.mpr rfl)
      refine (t1.kys l h1).resolve_left fun z => ?_
      have nd := s1.nd
      rw [keys_app] at nd
      exact (List.nodup_append.mp nd).2.2 l (by rw [hm]; exact z) l (List.mem_singleton.mpr rfl) rfl
    refine ho _ B1 H1 σ s1 (st_mono t1.ex st) _ fun x B2 H2 t2 s2 d2 => ?_
    have e : x = .ref p := d2
    subst e
    have hlt : j < m1.length := (List.getElem?_eq_some_iff.mp hj).1
    have hj2 : (m1 ++ [(l, cd)])[j]? = some (p, obj C dx names sds) := by
      rw [List.getElem?_append_left hlt]
      exact hj
    obtain ⟨vs, h1, h3⟩ := new_obj (sd := .rf l) (v := .ref l) s2 hj2 hp rfl
    refine ⟨p, C, dx, _, rfl, h1, c, n, by rw [List.length_zip]; omega, ?_⟩
    exact k l (fun z => absurd hnew (t.grow l (F.hk l z))) σ _ ⟨B2, st_mono (t1.ex.trans t2.ex) st, s2.put hj2 h3, ((t.trans t1).trans t2).trans (Tr.put s2 hj2 h3), lo.trans (t1.ex.trans t2.ex)⟩
/-! ### calls with a block of cells -/
theorem blk_perm (pre mc post : M) : (mc ++ (pre ++ post)).Perm (pre ++ mc ++ post) := by
  rw [← List.append_assoc]
  exact List.Perm.append_right post List.perm_append_comm
theorem blk_call {vs : List V} (s1 : SOk K B (pre ++ mc ++ post) H) (hF : ∃ R, G rs mc R ∧ ∀ r m2, R r m2 → r = c ∧ m2 = mc') (d1 : SdAll K B rs vs) (Q : VK) (q : ∀ v B2 H2, Tr B H (keys (pre ++ mc ++ post)) B2 H2 (keys (pre ++ mc' ++ post)) → SOk K B2 (pre ++ mc' ++ post) H2 → SdOk K B2 c v → Q v H2) : spOf K G vs H Q E := by
  obtain ⟨R, hR, hq⟩ := hF
  have s1' : SOk K B (mc ++ (pre ++ post)) H := s1.perm (blk_perm pre mc post)
  refine ⟨B, rs, mc, R, hR, s1'.sub (List.sublist_append_left _ _), d1, fun v B2 H2 r m2 hr t2 s2 d2 => ?_⟩
  obtain ⟨rfl, rfl⟩ := hq r m2 hr
  obtain ⟨t3, s3⟩ := fr_ok s1' t2 s2
  have p1 : ∀ a, a ∈ keys (mc ++ (pre ++ post)) ↔ a ∈ keys (pre ++ mc ++ post) := fun a => ((blk_perm pre mc post).map Prod.fst).mem_iff
  have p2 : ∀ a, a ∈ keys (m2 ++ (pre ++ post)) ↔ a ∈ keys (pre ++ m2 ++ post) := fun a => ((blk_perm pre m2 post).map Prod.fst).mem_iff
  exact q v B2 H2 (t3.perm p1 p2) (s3.perm (blk_perm pre m2 post).symm) d2
/-- f(..) -/
theorem ev_callB (h : EvA K t ds m rs (pre ++ mc ++ post)) (hF : ∃ R, G rs mc R ∧ ∀ r m2, R r m2 → r = c ∧ m2 = mc') : Ev K (tCall (spOf K G) [] E t) ds m c (pre ++ mc' ++ post) := fun B H σ s st Q q =>
  h B H σ s st _ fun vs B1 H1 t1 s1 d1 => by
    rw [List.append_nil]
    exact blk_call s1 hF d1 Q fun v B2 H2 t2 s2 d2 => q v B2 H2 (t1.trans t2) s2 d2
/-- o.m(..) -/
theorem ev_meth (j : Nat) {mt : Str} (ho : Ev K ta ds m (.rf p) m1) (hj : m1[j]? = some (p, obj C dx names sds)) (hl : sds.length ≤ names.length) (hm : mt ∉ names) (h : EvA K t ds m1 rs (pre ++ mc ++ post)) (hF : ∃ R, G (.rf p :: rs) mc R ∧ ∀ r m2, R r m2 → r = c ∧ m2 = mc') :
    Ev K (tMeth C mt (spOf K G) [] E ta t) ds m c (pre ++ mc' ++ post) := fun B H σ s st Q q =>
  ho B H σ s st _ fun x B1 H1 t1 s1 d1 => by
    have e : x = .ref p := d1
    subst e
    obtain ⟨vs, h1, _, _⟩ := s1.ob hj hl
    refine ⟨p, dx, _, rfl, h1, lookup_no (zip_keys hm), h B1 H1 σ s1 (st_mono t1.ex st) _ fun us B2 H2 t2 s2 d2 => ?_⟩
    rw [List.append_nil]
    exact blk_call (vs := .ref p :: us) s2 hF (rs := .rf p :: rs) ⟨rfl, d2⟩ Q fun v B3 H3 t3 s3 d3 => q v B3 H3 ((t1.trans t2).trans t3) s3 d3
/-! ### calls with any cells -/
theorem range_pick (m : M) : (List.range m.length).filterMap (fun i => m[i]?) = m := by
  induction m with
  | nil => rfl
  | cons a m ih =>
    rw [List.length_cons, List.range_succ_eq_map, List.filterMap_cons]
    show a :: ((List.range m.length).map Nat.succ).filterMap (fun i => (a :: m)[i]?) = a :: m
    rw [List.filterMap_map]
    exact congrArg (a :: ·) ih
theorem perm_ix {m m' : M} {n : Nat} (ix : List Nat) (hn : m.length = n) (h : ix.isPerm (List.range n) = true) (e : ix.filterMap (fun i => m[i]?) = m') : m'.Perm m := by
  subst e
  have hp := (List.isPerm_iff.mp h).filterMap (fun i => m[i]?)
  rw [← hn, range_pick] at hp
  exact hp
theorem any_call {vs : List V} {fr : M} (s1 : SOk K B m1 H) (hp : (mc ++ fr).Perm m1) (hp' : (mc' ++ fr).Perm m2) (hF : ∃ R, G rs mc R ∧ ∀ r m2, R r m2 → r = c ∧ m2 = mc') (d1 : SdAll K B rs vs) (Q : VK) (q : ∀ v B2 H2, Tr B H (keys m1) B2 H2 (keys m2) → SOk K B2 m2 H2 → SdOk K B2 c v → Q v H2) : spOf K G vs H Q E := by
  obtain ⟨R, hR, hq⟩ := hF
  have s1' : SOk K B (mc ++ fr) H := s1.perm hp
  refine ⟨B, rs, mc, R, hR, s1'.sub (List.sublist_append_left _ _), d1, fun v B2 H2 r m3 hr t2 s2 d2 => ?_⟩
  obtain ⟨rfl, rfl⟩ := hq r m3 hr
  obtain ⟨t3, s3⟩ := fr_ok s1' t2 s2
  exact q v B2 H2 (t3.perm (fun a => (hp.map Prod.fst).mem_iff) (fun a => (hp'.map Prod.fst).mem_iff)) (s3.perm hp'.symm) d2
/-- f(..) -/
theorem ev_callP {fr : M} (h : EvA K t ds m rs m1) (hp : (mc ++ fr).Perm m1) (hp' : (mc' ++ fr).Perm m2) (hF : ∃ R, G rs mc R ∧ ∀ r m2, R r m2 → r = c ∧ m2 = mc') : Ev K (tCall (spOf K G) [] E t) ds m c m2 := fun B H σ s st Q q =>
  h B H σ s st _ fun vs B1 H1 t1 s1 d1 => by
    rw [List.append_nil]
    exact any_call s1 hp hp' hF d1 Q fun v B2 H2 t2 s2 d2 => q v B2 H2 (t1.trans t2) s2 d2
/-- o.m(..) -/
theorem ev_methP (j : Nat) {mt : Str} {fr m3 : M} (ho : Ev K ta ds m (.rf p) m1) (hj : m1[j]? = some (p, obj C dx names sds)) (hl : sds.length ≤ names.length) (hm : mt ∉ names) (h : EvA K t ds m1 rs m2) (hp : (mc ++ fr).Perm m2) (hp' : (mc' ++ fr).Perm m3) (hF : ∃ R, G (.rf p :: rs) mc R ∧ ∀ r m2, R r m2 → r = c ∧ m2 = mc') :
    Ev K (tMeth C mt (spOf K G) [] E ta t) ds m c m3 := fun B H σ s st Q q =>
  ho B H σ s st _ fun x B1 H1 t1 s1 d1 => by
    have e : x = .ref p := d1
    subst e
    obtain ⟨vs, h1, _, _⟩ := s1.ob hj hl
    refine ⟨p, dx, _, rfl, h1, lookup_no (zip_keys hm), h B1 H1 σ s1 (st_mono t1.ex st) _ fun us B2 H2 t2 s2 d2 => ?_⟩
    rw [List.append_nil]
    exact any_call (vs := .ref p :: us) s2 hp hp' hF (rs := .rf p :: rs) ⟨rfl, d2⟩ Q fun v B3 H3 t3 s3 d3 => q v B3 H3 ((t1.trans t2).trans t3) s3 d3
/-! ### new cells in a group -/
/-- an expression that yields what r says of a, with new cells mN -/
def EvG {A : Type} (K : PySem.W.Frag) (te : TE) (ds : List SD) (m : M) (r : A → SD) (Good : A → M → Prop) (m1 : M) : Prop :=
  ∀ B H σ, SOk K B m H → StOk K B ds σ → ∀ Q : VK, (∀ v a mN B2 H2, Good a mN → Tr B H (keys m) B2 H2 (keys (m1 ++ mN)) → SOk K B2 (m1 ++ mN) H2 → SdOk K B2 (r a) v → Q v H2) → te σ H Q
theorem new_k0 {mN : M} {B0 H0 B1 H1 B2 H2 : Hp} {k0 : List Addr} (hk : ∀ a ∈ k0, H0 a ≠ none) (t0 : Tr B0 H0 k0 B1 H1 (keys m)) (t : Tr B1 H1 (keys m) B2 H2 (keys (m1 ++ mN))) (s : SOk K B2 (m1 ++ mN) H2) (hm : keys m1 = keys m) : ∀ a ∈ keys mN, a ∉ k0 := fun a ha z => by
  have nd : (List.map (fun p : Addr × CD => p.1) (m1 ++ mN)).Nodup := s.nd
  rw [List.map_append] at nd
  have h6 : a ∉ keys m1 := fun z2 => (List.nodup_append.mp nd).2.2 a z2 a ha rfl
  have h5 : a ∈ keys (m1 ++ mN) := by
    show a ∈ List.map _ _
    rw [List.map_append]
    exact List.mem_append_right _ ha
  rcases t.kys a h5 with h7 | h7
  · exact h6 (by rw [hm]; exact h7)
  · exact absurd h7 (t0.grow a (hk a z))
theorem eg_new {cd : CD} (h : EvN K te ds m cd m1) : EvG K te ds m SD.rf (fun p mN => mN = [(p, cd)]) m1 := fun B H σ s st Q q => h B H σ s st Q fun p B2 H2 t2 s2 => q (.ref p) p _ B2 H2 rfl t2 s2 rfl
theorem eg_make {Good : Addr → Addr → M → Prop} (h : EvA K t ds m rs m1) (hF : ∀ p dx, ∃ R, G (.rf p :: rs) [(p, obj C dx names [])] R ∧ ∀ r m2, R r m2 → r = .da .none ∧ Good p dx m2) :
    EvG K (tMake C (spOf K G) [] E t) ds m SD.rf (fun p mN => ∃ dx, Good p dx mN) m1 := fun B H σ s st Q q =>
  h B H σ s st _ fun vs B1 H1 t1 s1 d1 => by
    intro x dx hx hdx hne
    obtain ⟨R, hR, hq⟩ := hF x dx
    rw [List.append_nil]
    have hxB : B1 x = none := fresh_b s1 hx
    have tA : Tr B1 H1 (keys m1) B1 (upd H1 dx (.own x)) (keys m1) := ⟨Ex.refl _, fun _ _ _ z => z, fun a h1 hn xs => by
      by_cases e : a = dx
      · subst e; exact absurd hdx h1
      · rw [upd_ne e]; exact hn xs, fun a o _ z => by rw [upd_ne (ne_of_none z hdx)]; exact z, fun _ z => .inl z, fun a z => by
      by_cases e : a = dx
      · rw [e, upd_same]; exact fun q => nomatch q
      · rw [upd_ne e]; exact z⟩
    have sA : SOk K B1 m1 (upd H1 dx (.own x)) := ⟨fun a o z => by rw [upd_ne (ne_of_none (s1.ext a o z) hdx)]; exact s1.ext a o z, s1.nd, s1.out, fun q hq => by
      obtain ⟨o, g1, g2⟩ := s1.cel q hq
      exact ⟨o, by rw [upd_ne (ne_of_none g1 hdx)]; exact g1, g2⟩⟩
    have hx2 : (upd H1 dx (.own x)) x = none := by rw [upd_ne (Ne.symm hne)]; exact hx
    have cdx : CdOk K B1 (obj C dx names []) (.ins C dx []) := ⟨rfl, rfl, by rw [List.zip_nil_right]; exact True.intro⟩
    have tB := Tr.cell (c := obj C dx names []) (o := .ins C dx []) sA hx2
    have sB := sA.cell (c := obj C dx names []) hx2 cdx
    have sC : SOk K B1 ([(x, obj C dx names [])] ++ m1) (upd (upd H1 dx (.own x)) x (.ins C dx [])) := sB.perm List.perm_append_comm
    refine ⟨B1, .rf x :: rs, [(x, obj C dx names [])], R, hR, sC.sub (List.sublist_append_left _ _), ⟨rfl, d1⟩, fun v B2 H2 r m2 hr t2 s2 d2 => ?_⟩
    obtain ⟨rfl, hg⟩ := hq r m2 hr
    obtain ⟨t3, s3⟩ := fr_ok sC t2 s2
    have p1 : ∀ a, a ∈ keys ([(x, obj C dx names [])] ++ m1) ↔ a ∈ keys (m1 ++ [(x, obj C dx names [])]) := fun a => (List.perm_append_comm.map Prod.fst).mem_iff
    have p2 : ∀ a, a ∈ keys (m2 ++ m1) ↔ a ∈ keys (m1 ++ m2) := fun a => (List.perm_append_comm.map Prod.fst).mem_iff
    have t4 := t3.perm p1 p2
    have s4 : SOk K B2 (m1 ++ m2) H2 := s3.perm List.perm_append_comm
    have ev : v = .non := by
      have h' : Dq B2 v .none := d2
      cases h'
      rfl
    exact ⟨ev, q (.ref x) x m2 B2 H2 ⟨dx, hg⟩ (((t1.trans tA).trans tB).trans t4) s4 rfl⟩
/-- a def that gives new cells -/
theorem eg_call {A : Type} {r : A → SD} {Good : A → M → Prop} {fr : M} (h : EvA K t ds m rs m1) (hp : (mc ++ fr).Perm m1) (hp' : (mc' ++ fr).Perm m2) (hF : ∃ R, G rs mc R ∧ ∀ c mz, R c mz → ∃ a mN, c = r a ∧ mz = mc' ++ mN ∧ Good a mN) :
    EvG K (tCall (spOf K G) [] E t) ds m r Good m2 := fun B H σ s st Q q =>
  h B H σ s st _ fun vs B1 H1 t1 s1 d1 => by
    rw [List.append_nil]
    obtain ⟨R, hR, hq⟩ := hF
    have s1' : SOk K B1 (mc ++ fr) H1 := s1.perm hp
    refine ⟨B1, rs, mc, R, hR, s1'.sub (List.sublist_append_left _ _), d1, fun v B2 H2 c mz hr t2 s2 d2 => ?_⟩
    obtain ⟨a, mN, rfl, rfl, hg⟩ := hq c mz hr
    obtain ⟨t3, s3⟩ := fr_ok s1' t2 s2
    have pz : (mc' ++ mN ++ fr).Perm (m2 ++ mN) := by
      have e1 : (mc' ++ mN ++ fr).Perm (mc' ++ fr ++ mN) := by
        rw [List.append_assoc, List.append_assoc]
        exact List.Perm.append_left mc' List.perm_append_comm
      exact e1.trans (hp'.append_right mN)
    exact q v a mN B2 H2 hg (t1.trans (t3.perm (fun a => (hp.map Prod.fst).mem_iff) (fun a => (pz.map Prod.fst).mem_iff))) (s3.perm pz.symm) d2
theorem wp_asgG {A : Type} {r : A → SD} {Good : A → M → Prop} {i : Nat} (h : EvG F.K te ds m r Good m1) (k : ∀ a mN, Good a mN → (∀ x ∈ keys mN, x ∉ F.k0) → Wp F tz D (ds.set i (r a)) (m1 ++ mN)) (hm : keys m1 = keys m) : Wp F (tSeq (tAsg te (gName i)) tz) D ds m := fun σ H ⟨B, st, s, t, lo⟩ =>
  h B H σ s st _ fun v a mN B2 H2 hg t2 s2 d2 => k a mN hg (new_k0 F.hk t t2 s2 hm) _ H2 ⟨B2, st_set i (st_mono t2.ex st) (sl_of d2), s2, t.trans t2, lo.trans t2.ex⟩
/-- x = C(..) -/
theorem wp_make {i : Nat} {Good : Addr → Addr → M → Prop} (h : EvA F.K t ds m rs m1) (hF : ∀ p dx, ∃ R, G (.rf p :: rs) [(p, obj C dx names [])] R ∧ ∀ r m2, R r m2 → r = .da .none ∧ Good p dx m2)
    (k : ∀ p dx m2, Good p dx m2 → (∀ a ∈ keys m2, a ∉ F.k0) → Wp F tz D (ds.set i (.rf p)) (m1 ++ m2)) (hm : keys m1 = keys m) : Wp F (tSeq (tAsg (tMake C (spOf F.K G) [] E t) (gName i)) tz) D ds m :=
  wp_asgG (eg_make h hF) (fun p mN hg hn => hg.elim fun dx hg => k p dx mN hg hn) hm
/-- x, y = e, f, both new -/
theorem wp_parG {A A2 : Type} {r : A → SD} {r2 : A2 → SD} {Good : A → M → Prop} {Good2 : A2 → M → Prop} {i j : Nat} {tb : TE} (h : EvG F.K te ds m r Good m1) (h2 : ∀ a mN, Good a mN → EvG F.K tb ds (m1 ++ mN) r2 Good2 (m1 ++ mN))
    (k : ∀ a mN b mZ, Good a mN → Good2 b mZ → (∀ x ∈ keys (mN ++ mZ), x ∉ F.k0) → Wp F tz D ((ds.set i (r a)).set j (r2 b)) (m1 ++ mN ++ mZ)) (hm : keys m1 = keys m) : Wp F (tSeq (tPar i j (tCons te (tCons tb tNil))) tz) D ds m := fun σ H ⟨B, st, s, t, lo⟩ =>
  h B H σ s st _ fun v a mN B2 H2 hg t2 s2 d2 => h2 a mN hg B2 H2 σ s2 (st_mono t2.ex st) _ fun u b mZ B3 H3 hg2 t3 s3 d3 => by
    refine ⟨v, u, rfl, ?_⟩
    have s3' : SOk F.K B3 (m1 ++ (mN ++ mZ)) H3 := by rw [← List.append_assoc]; exact s3
    have t3' : Tr B H (keys m) B3 H3 (keys (m1 ++ (mN ++ mZ))) := by rw [← List.append_assoc]; exact t2.trans t3
    exact k a mN b mZ hg hg2 (new_k0 F.hk t t3' s3' hm) _ H3 ⟨B3, st_set j (st_set i (st_mono (t2.ex.trans t3.ex) st) (sl_of (sd_mono t3.ex d2))) (sl_of d3), s3, t.trans (t2.trans t3), lo.trans (t2.ex.trans t3.ex)⟩
/-! ### ends -/
theorem wp_fall {R : SD → M → Prop} (_ : Fin F D R) (hnx : ∀ σ B H m2, R (.da .none) m2 → Tr F.B0 F.H0 F.k0 B H (keys m2) → SOk F.K B m2 H → D.nx σ H) (hR : R (.da .none) m2) (hs : m2.Sublist m) : Wp F tNext D ds m := fun σ H ⟨B, st, s, t, lo⟩ =>
  hnx σ B H m2 hR (t.sub fun a z => (hs.map _).subset z) (s.sub hs)
theorem wp_retNS {R : SD → M → Prop} (hf : Fin F D R) (hR : R (.da .none) m2) (hs : m2.Sublist m) : Wp F (tSeq tRetN tz) D ds m := fun σ H ⟨B, st, s, t, lo⟩ =>
  hf .non B H _ m2 hR (t.sub fun a z => (hs.map _).subset z) (s.sub hs) .non
/-! ### code that is never reached -/
def tDead : TS := fun _ _ _ => False
theorem pss_dead {X : Cx} {ss : List Stmt} : PSs X ss tDead := ⟨fun _ _ _ _ _ _ h => h.elim⟩
/-- tuples of data and cells -/
theorem ev_tupP {es : List (PyData ⊕ Addr)} (h : EvA K t ds m (es.map fun e => match e with | .inl d => SD.da d | .inr l => SD.rf l) m') (hz : es.length ≤ 1000) : Ev K (tTup t) ds m (.tp es) m' := fun B H σ s st Q q => h B H σ s st _ fun vs B1 H1 t1 s1 d1 => by
  have key : ∀ {B : Hp} {es : List (PyData ⊕ Addr)} {vs : List V}, SdAll K B (es.map fun e => match e with | .inl d => SD.da d | .inr l => SD.rf l) vs → TpOk B es vs ∧ vs.length = es.length := by
    intro B es
    induction es with
    | nil =>
      intro vs h
      cases vs with
      | nil => exact ⟨True.intro, rfl⟩
      | cons v vs => exact h.elim
    | cons e es ih =>
      intro vs h
      cases vs with
      | nil => exact h.elim
      | cons v vs =>
        obtain ⟨h1, h2⟩ := ih h.2
        cases e with
        | inl d => exact ⟨⟨h.1, h1⟩, by rw [List.length_cons, List.length_cons, h2]⟩
        | inr l => exact ⟨⟨h.1, h1⟩, by rw [List.length_cons, List.length_cons, h2]⟩
  obtain ⟨k1, k2⟩ := key d1
  exact ⟨Nat.le_of_lt (small1000 (by omega)), fun p hp => q _ _ _ (t1.trans (Tr.data s1 hp)) (s1.data hp) ⟨p, vs, rfl, upd_same, tp_mono (Ex.new (fresh_b s1 hp)) k1⟩⟩
def sdOf : PyData ⊕ Addr → SD
  | .inl d => .da d
  | .inr l => .rf l
theorem tp_two {B : Hp} {a b : PyData ⊕ Addr} {vs : List V} (h : TpOk B [a, b] vs) : ∃ x y, vs = [x, y] ∧ SdOk K B (sdOf a) x ∧ SdOk K B (sdOf b) y := by
  cases vs with
  | nil => cases a <;> exact h.elim
  | cons x vs =>
    cases vs with
    | nil => cases a <;> cases b <;> exact h.2.elim
    | cons y vs =>
      cases vs with
      | nil => cases a <;> cases b <;> exact ⟨x, y, rfl, h.1, h.2.1⟩
      | cons z vs => cases a <;> cases b <;> exact h.2.2.elim
/-- x, y = e, e a tuple of data and cells, some of them new -/
theorem wp_unpG {A : Type} {ra rb : A → PyData ⊕ Addr} {Good : A → M → Prop} {i j : Nat} (h : EvG F.K te ds m (fun a => .tp [ra a, rb a]) Good m1) (k : ∀ a mN, Good a mN → (∀ x ∈ keys mN, x ∉ F.k0) → Wp F tz D ((ds.set i (sdOf (ra a))).set j (sdOf (rb a))) (m1 ++ mN)) (hm : keys m1 = keys m) :
    Wp F (tSeq (tAsg te (gTup F.K 2 (gCons (gName i) (gCons (gName j) gNil)))) tz) D ds m := fun σ H ⟨B, st, s, t, lo⟩ =>
  h B H σ s st _ fun v a mN B2 H2 hg t2 s2 d2 => by
    obtain ⟨p, vs, rfl, h1, h2⟩ := d2
    obtain ⟨x, y, rfl, dx, dy⟩ := tp_two (K := F.K) h2
    refine ⟨p, [x, y], rfl, SqT.of (s2.ext _ _ h1), rfl, x, [y], rfl, y, [], rfl, rfl, ?_⟩
    exact k a mN hg (new_k0 F.hk t t2 s2 hm) _ H2 ⟨B2, st_set j (st_set i (st_mono t2.ex st) (sl_of dx)) (sl_of dy), s2, t.trans t2, lo.trans t2.ex⟩
/-- x, y = e, e a tuple of data and cells -/
theorem wp_unpT {i j : Nat} {a b : PyData ⊕ Addr} (h : Ev F.K te ds m (.tp [a, b]) m1) (k : Wp F tz D ((ds.set i (sdOf a)).set j (sdOf b)) m1) : Wp F (tSeq (tAsg te (gTup F.K 2 (gCons (gName i) (gCons (gName j) gNil)))) tz) D ds m := fun σ H ⟨B, st, s, t, lo⟩ =>
  h B H σ s st _ fun v B2 H2 t2 s2 d2 => by
    obtain ⟨p, vs, rfl, h1, h2⟩ := d2
    obtain ⟨x, y, rfl, dx, dy⟩ := tp_two (K := F.K) h2
    refine ⟨p, [x, y], rfl, SqT.of (s2.ext _ _ h1), rfl, x, [y], rfl, y, [], rfl, rfl, ?_⟩
    exact k _ H2 ⟨B2, st_set j (st_set i (st_mono t2.ex st) (sl_of dx)) (sl_of dy), s2, t.trans t2, lo.trans t2.ex⟩
end
end FC
set_option maxHeartbeats 400000
/-! FD: texts, dicts that are walked, isinstance. -/
namespace FC
open PySem PySem.Spec PyProof.Rows L2 Evl
section
variable {K : PySem.W.Frag} {B H : Hp} {ds : List SD} {m m1 m2 m' : M} {α : Type} {f : α → PyData} {te td tl : TE} {r : SD} {l : Addr} {F : Fx} {D : Ends} {tz : TS}
/-! ### a dict that is walked: locked -/
theorem SOk.dk' {j : Nat} {kvs : List (Key × PyData)} (s : SOk K B m H) (hm : m[j]? = some (l, .dk kvs)) : ∃ ws, H l = some (.dK ws) ∧ KvOk B kvs ws := by
  obtain ⟨o, h, c⟩ := s.at hm
  cases o <;> first | exact ⟨_, h, c⟩ | exact c.elim
theorem SOk.lkd {j : Nat} {od : Obj} {ws : List (Key × V)} {kvs : List (Key × PyData)} (s : SOk K B m H) (hm : m[j]? = some (l, .lk od ws kvs)) : H l = some (.frz od (.dK ws)) ∧ KvOk B kvs ws := by
  obtain ⟨o, h, c⟩ := s.at hm
  cases o with
  | frz od' u =>
    obtain ⟨rfl, rfl, c⟩ := c
    exact ⟨h, c⟩
  | _ => exact c.elim
theorem set_back {j : Nat} {x y : Addr × CD} (h : m[j]? = some x) : (m.set j y).set j x = m := by
  rw [List.set_set]
  refine List.ext_getElem? fun i => ?_
  rw [List.getElem?_set]
  by_cases e : j = i
  · subst e
    have hl := (List.getElem?_eq_some_iff.mp h).1
    rw [if_pos rfl, if_pos hl, h]
  · rw [if_neg e]
theorem ev_lock (j : Nat) {kvs : List (Key × PyData)} (hj : m[j]? = some (l, .dk kvs)) (h : ∀ od ws, Ev K te ds (m.set j (l, .lk od ws kvs)) r (m'.set j (l, .lk od ws kvs))) (hj' : m'[j]? = some (l, .dk kvs)) : Ev K (tLockE te) ds m r m' := fun B H σ s st Q q => by
  obtain ⟨ws, h1, h2⟩ := s.dk' hj
  refine ⟨l, .dK ws, h1, True.intro, fun od => ?_⟩
  have cd : CdOk K B (.lk od ws kvs) (.frz od (.dK ws)) := ⟨rfl, rfl, h2⟩
  refine h od ws B _ σ (s.put hj cd) st _ fun v B2 H2 t2 s2 d2 => ?_
  have hl' := (List.getElem?_eq_some_iff.mp hj').1
  have hj2 : (m'.set j (l, CD.lk od ws kvs))[j]? = some (l, .lk od ws kvs) := List.getElem?_set_self hl'
  obtain ⟨g1, g2⟩ := s2.lkd hj2
  have cd2 : CdOk K B2 (.dk kvs) (.dK ws) := g2
  have s3 := s2.put hj2 cd2
  have t3 := Tr.put s2 hj2 cd2
  rw [set_back hj'] at s3 t3
  exact ⟨g1, q v B2 _ (((Tr.put s hj cd).trans t2).trans t3) s3 d2⟩
/-- x = e, a dict locked the while -/
theorem wp_lockA {i : Nat} (j : Nat) {kvs : List (Key × PyData)} (hj : m[j]? = some (l, .dk kvs)) (h : ∀ od ws, Ev F.K te ds (m.set j (l, .lk od ws kvs)) r (m'.set j (l, .lk od ws kvs))) (hj' : m'[j]? = some (l, .dk kvs)) (k : Wp F tz D (ds.set i r) m') : Wp F (tSeq (tLock (tAsg te (gName i))) tz) D ds m := fun σ H ⟨B, st, s, t, lo⟩ => by
  obtain ⟨ws, h1, h2⟩ := s.dk' hj
  refine ⟨l, .dK ws, h1, True.intro, fun od => ?_⟩
  have cd : CdOk F.K B (.lk od ws kvs) (.frz od (.dK ws)) := ⟨rfl, rfl, h2⟩
  refine h od ws B _ σ (s.put hj cd) st _ fun v B2 H2 t2 s2 d2 => ?_
  have hl' := (List.getElem?_eq_some_iff.mp hj').1
  have hj2 : (m'.set j (l, CD.lk od ws kvs))[j]? = some (l, .lk od ws kvs) := List.getElem?_set_self hl'
  obtain ⟨g1, g2⟩ := s2.lkd hj2
  have cd2 : CdOk F.K B2 (.dk kvs) (.dK ws) := g2
  have s3 := s2.put hj2 cd2
  have t3 := Tr.put s2 hj2 cd2
  rw [set_back hj'] at s3 t3
  exact ⟨g1, k _ _ ⟨B2, st_set i (st_mono t2.ex st) (sl_of d2), s3, t.trans (((Tr.put s hj cd).trans t2).trans t3), lo.trans t2.ex⟩⟩
theorem kv_at {κ : Type} : ∀ {kvs : List (κ × PyData)} {ws : List (κ × V)} {i : Nat} {k : κ} {v : V}, KvOk B kvs ws → ws[i]? = some (k, v) → ∃ d, kvs[i]? = some (k, d) ∧ Dq B v d
  | _ :: _, _ :: _, 0, _, _, h, e => by
    cases Option.some.inj e
    exact ⟨_, by rw [List.getElem?_cons_zero]; exact congrArg some (Prod.ext h.1.1 rfl), h.1.2⟩
  | _ :: kvs, _ :: ws, i + 1, _, _, h, e => kv_at (kvs := kvs) (ws := ws) (i := i) h.2 e
  | [], [], _, _, _, _, e => by simp at e
  | [], _ :: _, _, _, _, h, _ => h.elim
  | _ :: _, [], _, _, _, h, _ => h.elim
theorem kv_len' {κ : Type} : ∀ {kvs : List (κ × PyData)} {ws : List (κ × V)}, KvOk B kvs ws → ws.length = kvs.length
  | [], [], _ => rfl
  | _ :: kvs, _ :: ws, h => congrArg (· + 1) (kv_len' h.2)
  | [], _ :: _, h => h.elim
  | _ :: _, [], h => h.elim
/-- the keys of a locked dict -/
theorem src_DS (j0 : Nat) {kvs : List (Str × α)} {od : Obj} {ws : List (Key × V)} {j : Nat} (h : Ev K td ds m (.rf l) m1) (hj : m1[j0]? = some (l, .lk od ws (eK kS f kvs))) :
    Src K (iKeys td) (gName j) ds m m1 (fun m' => m'[j0]? = some (l, .lk od ws (eK kS f kvs))) (kvs.map (·.1)) (fun x ds => ds.set j (.da (dS x))) [j] := fun B H σ s st R q => h B H σ s st _ fun v B1 H1 t1 s1 d1 => by
  have e : v = .ref l := d1
  subst e
  obtain ⟨h1, h2⟩ := s1.lkd hj
  have hl : ws.length = kvs.length := by
    rw [kv_len' h2]
    unfold eK
    rw [List.length_map]
  refine ⟨l, od, rfl, .inl ⟨ws, h1, q _ B1 H1 t1 s1 ⟨fun i H B' m' hi e g s => ?_, fun H B' m' e g s => ?_, fun i x v H H' B' m' ds σ hx e g s st hy Q q => ?_⟩⟩⟩
  · rw [List.length_map] at hi
    exact ⟨(s.lkd g).1, by omega⟩
  · exact ⟨(s.lkd g).1, by rw [List.length_map]; omega⟩
  · obtain ⟨rfl, k, u, hk, rfl⟩ := hy
    obtain ⟨d, g1, _⟩ := kv_at h2 hk
    unfold eK at g1
    rw [List.getElem?_map] at g1 hx
    cases e2 : kvs[i]? with
    | none => rw [e2] at hx; cases hx
    | some p =>
      rw [e2] at g1 hx
      have e3 := Option.some.inj hx
      have e4 := (Prod.mk.inj (Option.some.inj g1)).1
      subst e3
      rw [← e4]
      exact tg_name s st (.str p.1) Q q
/-- a locked dict is read -/
theorem ev_dgetL (j : Nat) {kvs : List (Str × α)} {k : Str} {a : α} {od : Obj} {ws : List (Key × V)} {ty : TE} (hd : Ev K td ds m (.rf l) m1) (hy : Ev K ty ds m1 (.da (dS k)) m2) (hj : m2[j]? = some (l, .lk od ws (eK kS f kvs))) (h : dget kvs k = some a) : Ev K (tDGet td ty) ds m (.da (f a)) m2 := fun B H σ s st Q q =>
  hd B H σ s st _ fun x B1 H1 t1 s1 d1 => hy B1 H1 σ s1 (st_mono t1.ex st) _ fun y B2 H2 t2 s2 d2 => by
    obtain ⟨h1, h2⟩ := s2.lkd hj
    have h3 := kv_get (fun _ _ => kS_inj) (k := k) h2
    rw [h] at h3
    obtain ⟨v, h5, h6⟩ := h3
    refine ⟨l, v, d1, ?_, q v B2 H2 (t1.trans t2) s2 h6⟩
    rw [key_S d2]
    exact .inl ⟨ws, kS k, .inr ⟨od, h1⟩, rfl, h5.symm⟩
/-! ### texts -/
theorem src_St {x : Str} {j : Nat} (h : Ev K tl ds m (.da (dS x)) m1) : Src K (iStr tl) (gName j) ds m m1 (fun _ => True) (x.cps.toList.map fun c => (⟨#[c]⟩ : Str)) (fun x ds => ds.set j (.da (dS x))) [j] := fun B H σ s st R q => h B H σ s st _ fun v B1 H1 t1 s1 d1 => by
  obtain rfl := str_of d1
  refine ⟨x, rfl, q _ B1 H1 t1 s1 ⟨fun i H B' m' hi e g s => ?_, fun H B' m' e g s => ?_, fun i a v H H' B' m' ds σ hx e g s st hy Q q => ?_⟩⟩
  · rw [List.length_map, Array.length_toList] at hi
    exact hi
  · show x.cps.size ≤ _
    rw [List.length_map, Array.length_toList]
    exact Nat.le_refl _
  · obtain ⟨rfl, c, hc, rfl⟩ := hy
    rw [List.getElem?_map, Array.getElem?_toList, hc] at hx
    have e3 := Option.some.inj hx
    subst e3
    exact tg_name s st (.str _) Q q
/-- one sign in a text -/
def inS (x z : Str) : Option Bool := match x.cps.toList with
  | [c] => some (decide (c ∈ z.cps.toList))
  | _ => none
theorem rr_inS {x z : Str} {b : Bool} (h : inS x z = some b) : Rr K rInS (.da (dS x)) (.da (dS z)) m (.da (dB b)) m := Rr.of fun B H u v s dx dy Q q => by
  obtain rfl := str_of dx
  obtain rfl := str_of dy
  unfold inS at h
  split at h
  · rename_i c hc
    refine ⟨c, z, ?_, rfl, ?_⟩
    · have e : x.cps = #[c] := by rw [← Array.toArray_toList (xs := x.cps), hc]
      cases x
      cases e
      rfl
    · rw [Option.some.inj h]
      exact q _ (.bl _)
  · cases h
def getS (z : Str) (i : Int) : Option Str := if z.length ≤ 16000000 then (atI z.cps.toList i).map fun c => ⟨#[c]⟩ else none
theorem rr_ixS {z x : Str} {i : Int} (h : getS z i = some x) : Rr K rIxS (.da (dS z)) (.da (dI i)) m (.da (dS x)) m := Rr.of fun B H u v s dx dy Q q => by
  obtain rfl := str_of dx
  obtain rfl := int_of dy
  unfold getS at h
  split at h
  · rename_i hl
    obtain ⟨c, h1, h2⟩ := Option.map_eq_some_iff.mp h
    subst h2
    exact ⟨z, i, c, rfl, rfl, by rw [sizeLine_eq]; omega, h1, q _ (.str _)⟩
  · cases h
def rCatSt : R2 := fun x y H Q => ∃ i j, x = .str i ∧ y = .str j ∧ i.length + j.length ≤ sizeLine ∧ Q (.str (i ++ j)) H
theorem op_catSt {X : Cx} : OpR X (binaryOp .Add) rCatSt := op_add_str
theorem rr_catS {x z : Str} (h : lenG (x.length + z.length) = some ()) : Rr K rCatSt (.da (dS x)) (.da (dS z)) m (.da (dS (x ++ z))) m := Rr.of fun B H u v s dx dy Q q => by
  obtain rfl := str_of dx
  obtain rfl := str_of dy
  exact ⟨x, z, rfl, rfl, by have := lenG_some h; rw [sizeLine_eq]; omega, q _ (.str _)⟩
def rMulSt : R2 := fun x y H Q => ∃ z i, x = .str z ∧ y = .int i ∧ PySem.MulOk z i ∧ Q (.str (Txt.mul z i)) H
theorem op_mulSt {X : Cx} : OpR X (binaryOp .Mult) rMulSt := by
  intro pins s σ H x y v u Q I rx ry h
  obtain ⟨z, i, rfl, rfl, ok, q⟩ := h
  obtain ⟨t, rfl⟩ := rx
  obtain ⟨t', rfl⟩ := ry
  exact SB.mul ok fun t2 k => ⟨.str (Txt.mul z i), H, I.tok _, ⟨t2, rfl⟩, q⟩
instance (z : Str) (i : Int) : Decidable (PySem.MulOk z i) := by unfold PySem.MulOk; infer_instance
def mulS (z : Str) (i : Int) : Option Str := if PySem.MulOk z i then some (Txt.mul z i) else none
theorem rr_mulS {z x : Str} {i : Int} (h : mulS z i = some x) : Rr K rMulSt (.da (dS z)) (.da (dI i)) m (.da (dS x)) m := Rr.of fun B H u v s dx dy Q q => by
  obtain rfl := str_of dx
  obtain rfl := int_of dy
  unfold mulS at h
  split at h
  · rename_i ok
    refine ⟨z, i, rfl, rfl, ok, ?_⟩
    rw [Option.some.inj h]
    exact q _ (.str _)
  · cases h
theorem ev_tcS {x : Str} : Ev K (tC (.str x)) ds m (.da (dS x)) m := fun B H σ s st Q q => q _ B H (Tr.refl _ _ _) s (.str x)
theorem ev_tcI {i : Int} : Ev K (tC (.int i)) ds m (.da (dI i)) m := fun B H σ s st Q q => q _ B H (Tr.refl _ _ _) s (.int i)
def rLenSt : List V → Hp → VK → Prop := fun xs H Q => ∃ z, xs = [.str z] ∧ z.length ≤ sizeLine ∧ Q (.int z.length) H
theorem call_len_strA {X : Cx} : CallR X (.builtin "len") rLenSt := call_len_str
theorem rc_lenS {z : Str} (h : lenG z.length = some ()) : Rc K rLenSt [.da (dS z)] m (.da (dI z.length)) m := Rc.of fun B H vs s dx Q q => by
  obtain ⟨v, rfl, d1⟩ := sda1 dx
  obtain rfl := str_of d1
  exact ⟨z, rfl, by have := lenG_some h; rw [sizeLine_eq]; omega, q _ (.int _)⟩
def rLenDk : List V → Hp → VK → Prop := fun xs H Q => ∃ a kvs, xs = [V.ref a] ∧ H a = some (.dK kvs) ∧ Q (.int kvs.length) H
theorem call_lenDk {X : Cx} : CallR X (.builtin "len") rLenDk := call_lenD
theorem rc_lenD (j : Nat) {kvs : List (Str × α)} (hj : m[j]? = some (l, .dk (eK kS f kvs))) : Rc K rLenDk [.rf l] m (.da (dI kvs.length)) m := Rc.of fun B H vs s dx Q q => by
  obtain ⟨v, rfl, d1⟩ := sda1 dx
  have e : v = .ref l := d1
  subst e
  obtain ⟨ws, h1, h2⟩ := s.dk' hj
  refine ⟨l, ws, rfl, h1, ?_⟩
  have hl := kv_len' h2
  unfold eK at hl
  rw [List.length_map] at hl
  rw [hl]
  exact q _ (.int _)
/-! ### sorted(d), d.pop(k), d != {} -/
theorem rising_pw : ∀ {xs : List Str} {p : Str}, risingS p xs = true → (p :: xs).Pairwise fun a b => ltS b a = false
  | [], p, _ => List.pairwise_singleton _ _
  | x :: r, p, h => by
    have h' : (!ltCps x.cps.toList p.cps.toList && risingS x r) = true := h
    rw [Bool.and_eq_true] at h'
    have h1 : ltS x p = false := by
      have h2 := h'.1
      rw [ltCps_eq] at h2
      unfold ltS
      simpa using h2
    have ih := rising_pw h'.2
    refine List.pairwise_cons.mpr ⟨fun y hy => ?_, ih⟩
    rcases List.mem_cons.mp hy with e | hy
    · rw [e]
      exact h1
    · exact Tot.ntr (lt := ltS) inferInstance h1 ((List.pairwise_cons.mp ih).1 y hy)
def rSortDS : List V → Hp → VK → Prop := fun xs H Q => ∃ (a : Addr) (kvs : List (Key × V)) (ks : List Str), xs = [.ref a] ∧ Rd H a (.dK kvs) ∧ kvs.map (·.1) = ks.map Sum.inr ∧ ks.length < 64 ∧ ∀ ys p, ys.Perm ks → sortedS ys = true → H p = none → Q (.ref p) (upd H p (.lst (ys.map V.str)))
theorem cr_sortDS {X : Cx} (hc : X.calm = true) : CallR X (.builtin "sorted") rSortDS := call_sortedD hc
theorem kv_keysS {kvs : List (Str × α)} : ∀ {ws : List (Key × V)}, KvOk B (eK kS f kvs) ws → ws.map (·.1) = (kvs.map (·.1)).map Sum.inr := by
  induction kvs with
  | nil =>
    intro ws h
    cases ws with
    | nil => rfl
    | cons w ws => exact h.elim
  | cons p kvs ih =>
    intro ws h
    cases ws with
    | nil => exact h.elim
    | cons w ws =>
      rw [List.map_cons, List.map_cons, List.map_cons, ih h.2]
      have e : kS p.1 = w.1 := h.1.1
      rw [← e]
      rfl
theorem dqa_txts {B : Hp} : ∀ ys : List Str, DqAll B (ys.map V.str) (ys.map dS)
  | [] => .nil
  | y :: ys => .cons (.str y) (dqa_txts ys)
def lenS (n : Nat) : Option Unit := if n < 64 then some () else none
theorem rc_sortDS (j : Nat) {kvs : List (Str × α)} (hj : m[j]? = some (l, .dk (eK kS f kvs))) (hn : lenS kvs.length = some ()) : Rc K rSortDS [.rf l] m (.da (dL dS (srt ltS (kvs.map (·.1))))) m := fun B H vs s dx Q q => by
  obtain ⟨v, rfl, d1⟩ := sda1 dx
  have e : v = .ref l := d1
  subst e
  obtain ⟨ws, h1, h2⟩ := s.dk' hj
  have h64 : kvs.length < 64 := by
    unfold lenS at hn
    split at hn
    · assumption
    · cases hn
  refine ⟨l, ws, kvs.map (·.1), rfl, .inl h1, kv_keysS h2, by rw [List.length_map]; exact h64, fun ys p hp hs hn => ?_⟩
  have e2 : srt ltS (kvs.map (·.1)) = ys := by
    refine srt_uniq hp ?_
    cases ys with
    | nil => exact List.Pairwise.nil
    | cons y ys => exact rising_pw hs
  refine q _ _ _ (Tr.data s hn) (s.data hn) (Dq.lst upd_same ?_)
  rw [e2]
  exact dqa_txts ys
theorem ev_dpop (j : Nat) {kvs : List (Str × α)} {k : Str} {a : α} {ty : TE} (hd : Ev K td ds m (.rf l) m1) (hd0 : m1[j]? = some (l, .dk (eK kS f kvs))) (hy : Ev K ty ds m1 (.da (dS k)) m2) (hj : m2[j]? = some (l, .dk (eK kS f kvs))) (h : dget kvs k = some a) :
    Ev K (tDPop1 td ty) ds m (.da (f a)) (m2.set j (l, .dk (eK kS f (ddrop kvs k)))) := fun B H σ s st Q q =>
  hd B H σ s st _ fun x B1 H1 t1 s1 d1 => by
    have e : x = .ref l := d1
    subst e
    obtain ⟨ws0, g1, _⟩ := s1.dk' hd0
    refine ⟨l, rfl, .inl ⟨ws0, .inl g1⟩, hy B1 H1 σ s1 (st_mono t1.ex st) _ fun y B2 H2 t2 s2 d2 => ?_⟩
    obtain ⟨ws, h1, h2⟩ := s2.dk' hj
    have h3 := kv_get (fun _ _ => kS_inj) (k := k) h2
    rw [h] at h3
    obtain ⟨v, h5, h6⟩ := h3
    have h7 : CdOk K B2 (.dk (eK kS f (ddrop kvs k))) (.dK (dropK ws (kS k))) := kv_drop (fun _ _ => kS_inj) h2
    exact ⟨ws, kS k, v, h1, key_S d2, h5, q v B2 _ ((t1.trans t2).trans (Tr.put s2 hj h7)) (s2.put hj h7) h6⟩
/-- d != {} -/
def rNeE : R2 := fun x y H Q => ∃ a b ks, x = .ref a ∧ y = .ref b ∧ H a = some (.dK ks) ∧ H b = some (.dK []) ∧ Q (.bl (!ks.isEmpty)) H
theorem op_neE {X : Cx} (hu : X.A.units < cLine) : OpR X (compareOp .NotEq) rNeE := by
  intro pins s σ H x y v u Q I rx ry h
  obtain ⟨a, b, ks, rfl, rfl, ea, eb, q⟩ := h
  cases ks with
  | nil => exact op_ne_dictA hu pins s σ H _ _ v u Q I rx ry ⟨a, b, [], [], rfl, rfl, ea, eb, rfl, (fun _ h => nomatch h), q⟩
  | cons k ks =>
    obtain rfl : v = Value.ref a := rx
    obtain rfl : u = Value.ref b := ry
    obtain ⟨_, ya, va, ra, da⟩ := (show ObjOk X.prog X.w H s.heap a (.dK (k :: ks)) from I.hok a _ ea)
    obtain ⟨_, yb, vb, rb, db⟩ := (show ObjOk X.prog X.w H s.heap b (.dK []) from I.hok b _ eb)
    have h1 : va.length = ks.length + 1 := ra.length.symm
    have h2 : vb.length = 0 := rb.length.symm
    refine PySem.W.keq_ne (knd := mixKind X.prog X.w) (r := true) ya yb da db hu (fun e => by omega) (fin_bl I q ?_)
    have : (va.length == vb.length) = false := by
      rw [h1, h2]
      rfl
    rw [this]
    rfl
theorem ev_neE (j : Nat) {kvs : List (Str × α)} {ta tb : TE} (ha : Ev K ta ds m (.rf l) m1) (hb : tb = tDNewK) (hj : m1[j]? = some (l, .dk (eK kS f kvs))) : Ev K (tOp rNeE ta tb) ds m (.da (dB (!kvs.isEmpty))) m1 := fun B H σ s st Q q => by
  subst hb
  exact ha B H σ s st _ fun x B1 H1 t1 s1 d1 => by
    have e : x = .ref l := d1
    subst e
    intro p hp
    obtain ⟨ws, h1, h2⟩ := s1.dk' hj
    refine ⟨l, p, ws, rfl, rfl, by rw [upd_ne (ne_of_none h1 hp)]; exact h1, upd_same, ?_⟩
    have e2 : ws.isEmpty = kvs.isEmpty := by
      have hl := kv_len' h2
      unfold eK at hl
      rw [List.length_map] at hl
      cases ws <;> cases kvs <;> first | rfl | (simp at hl)
    rw [e2]
    exact q _ _ _ (t1.trans (Tr.data s1 hp)) (s1.data hp) (.bl _)
/-! ### isinstance of what has a known kind -/
def kindOf : PyData → String
  | .none => "NoneType"
  | .bool _ => "bool"
  | .int _ => "int"
  | .str _ => "str"
  | .list _ => "list"
  | .tuple _ => "tuple"
  | .dict _ => "dict"
theorem ty_of {v : V} {d : PyData} (s : SOk K B m H) (h : Dq B v d) : TyX K H v (.type (kindOf d)) := by
  cases h with
  | non => exact .base .non
  | bl b => exact .base (.bl b)
  | int i => exact .base (.int i)
  | str x => exact .base (.str x)
  | lst h _ => exact .base (.lst (s.ext _ _ h))
  | tup h _ => exact .base (.tup (s.ext _ _ h))
/-- the arguments: the value, the class by its name -/
theorem ev_isi {ta : TE} {d : PyData} {T : String} {b : Bool} (h : Ev K ta ds m (.da d) m1) (hk : kitB (kindOf d) T = some b) : Ev K (tCB (rIsi K) (tCons ta (tCons (tC (.ty T)) tNil))) ds m (.da (dB b)) m1 := fun B H σ s st Q q =>
  h B H σ s st _ fun v B1 H1 t1 s1 d1 => ⟨v, .ty T, .type (kindOf d), .type T, b, rfl, .ty T, ty_of s1 d1, kit_ty hk, q _ B1 H1 t1 s1 (.bl b)⟩
end
end FC
set_option maxHeartbeats 400000
/-! FJ: raw data: isinstance with a tuple of classes, a comparison with itself, zips. -/
namespace FC
open PySem PySem.Spec PyProof.Rows L2 Evl
section
variable {K : PySem.W.Frag} {B H : Hp} {ds : List SD} {m m1 m2 m' : M} {ta tb te : TE} {d e : PyData}
def isSeq (d : PyData) : Bool := kindOf d == "list" || kindOf d == "tuple"
theorem kit_seq (d : PyData) : PySem.W.kitAny K (.type (kindOf d)) [.type "list", .type "tuple"] = some (isSeq d) := by
  have key : ∀ k : String, ∀ b1 b2 : Bool, kitB k "list" = some b1 → kitB k "tuple" = some b2 → PySem.W.kitAny K (.type k) [.type "list", .type "tuple"] = some (b1 || b2) := fun k b1 b2 h1 h2 => by
    unfold PySem.W.kitAny
    rw [kit_ty h1]
    cases b1 with
    | true => rfl
    | false =>
      show PySem.W.kitAny K (.type k) [.type "tuple"] = _
      unfold PySem.W.kitAny
      rw [kit_ty h2]
      cases b2 <;> rfl
  cases d with
  | none => exact key "NoneType" false false (by decide +kernel) (by decide +kernel)
  | bool b => exact key "bool" false false (by decide +kernel) (by decide +kernel)
  | int i => exact key "int" false false (by decide +kernel) (by decide +kernel)
  | str x => exact key "str" false false (by decide +kernel) (by decide +kernel)
  | list xs => exact key "list" true false (by decide +kernel) (by decide +kernel)
  | tuple xs => exact key "tuple" false true (by decide +kernel) (by decide +kernel)
  | dict kvs => exact key "dict" false false (by decide +kernel) (by decide +kernel)
theorem ev_isiT (h : Ev K ta ds m (.da d) m1) : Ev K (tCB (rIsiT K) (tCons ta (tCons (tTup (tCons (tC (.ty "list")) (tCons (tC (.ty "tuple")) tNil))) tNil))) ds m (.da (dB (isSeq d))) m1 := fun B H σ s st Q q =>
  h B H σ s st _ fun v B1 H1 t1 s1 d1 => by
    refine ⟨by rw [sizeLine_eq]; show 2 ≤ 16777216; omega, fun p hp => ?_⟩
    have s2 := s1.data (o := .tup [.ty "list", .ty "tuple"]) hp
    have t2 := Tr.data (o := .tup [.ty "list", .ty "tuple"]) s1 hp
    exact ⟨v, p, _, .type (kindOf d), [.type "list", .type "tuple"], isSeq d, rfl, upd_same, .cons (.ty "list") (.cons (.ty "tuple") .nil), ty_of s2 (dp_mono t2.ex d1), kit_seq d, q _ _ _ (t1.trans t2) s2 (.bl _)⟩
/-! ### the law's own look whether two are alike -/
def SamOk : Nat → PyData → Prop
  | _, .none => True
  | _, .bool _ => True
  | _, .int _ => True
  | _, .str _ => True
  | n + 1, .list xs => xs.length ≤ 16000000 ∧ ∀ x ∈ xs, SamOk n x
  | n + 1, .tuple xs => xs.length ≤ 16000000 ∧ ∀ x ∈ xs, SamOk n x
  | _, _ => False
def pfSame : Nat → Pf
  | 0 => fun _ _ _ => False
  | n + 1 => fun as m R => ∃ d, SamOk n d ∧ as = [.da d, .da d] ∧ m = [] ∧ R = fun c m2 => c = .da (dB true) ∧ m2 = []
open Classical in
noncomputable def samG (n : Nat) (a b : PyData) : Option Bool := if a = b ∧ SamOk (n - 1) a ∧ 0 < n then some true else none
theorem samG_some {n : Nat} {a b : PyData} {r : Bool} (h : samG n a b = some r) : a = b ∧ (SamOk (n - 1) a ∧ 0 < n) ∧ r = true := by
  unfold samG at h
  split at h
  · rename_i q
    exact ⟨q.1, q.2, (Option.some.inj h).symm⟩
  · cases h
/-- raw items -/
theorem list_id (xs : List PyData) : PyData.list xs = dL id xs := by
  show _ = PyData.list (xs.map id)
  rw [List.map_id]
theorem tup_id (xs : List PyData) : PyData.tuple xs = dU id xs := by
  show _ = PyData.tuple (xs.map id)
  rw [List.map_id]
theorem zip_self_id (xs : List PyData) : xs.zip xs = xs.map fun x => (x, x) := by
  induction xs with
  | nil => rfl
  | cons x xs ih => rw [List.zip_cons_cons, ih]; rfl
/-- a scalar is itself -/
theorem rr_eqSc {d : PyData} (h : isSeq d = false) (hd : kindOf d ≠ "dict") : Rr K rEq (.da d) (.da d) m (.da (dB true)) m := Rr.of fun B H u v s dx dy Q q => by
  have dx' : Dq B u d := dx
  have dy' : Dq B v d := dy
  cases d with
  | none => cases dx'; cases dy'; exact ⟨rfl, by rw [decide_eq_true rfl]; exact q _ (.bl _)⟩
  | bool b => cases dx'; cases dy'; exact ⟨rfl, by rw [decide_eq_true rfl]; exact q _ (.bl _)⟩
  | int i => cases dx'; cases dy'; exact ⟨rfl, by rw [decide_eq_true rfl]; exact q _ (.bl _)⟩
  | str x => cases dx'; cases dy'; exact ⟨rfl, by rw [decide_eq_true rfl]; exact q _ (.bl _)⟩
  | list xs => exact absurd h (by show ¬ (true = false); decide)
  | tuple xs => exact absurd h (by show ¬ (true = false); decide)
  | dict kvs => exact absurd rfl hd
/-- d is None -/
theorem rr_isNoX {d : PyData} : Rr K rIsNo (.da d) (.da .none) m (.da (dB (kindOf d == "NoneType"))) m := Rr.of fun B H x y s dx dy Q q => by
  have dx' : Dq B x d := dx
  refine ⟨non_of dy, ?_⟩
  have key : decide (x = .non) = (kindOf d == "NoneType") := by
    cases dx' <;> rfl
  rw [key]
  exact q _ (.bl _)
/-- a call of the law's own look -/
theorem ev_same {n : Nat} {E : XK} {t : TA} {r : Bool} (h : EvA K t ds m [.da d, .da e] m1) (hs : samG n d e = some r) : Ev K (tCall (spOf K (pfSame n)) [] E t) ds m (.da (dB r)) m1 := by
  obtain ⟨rfl, h2, rfl⟩ := samG_some hs
  cases n with
  | zero => exact absurd h2.2 (Nat.lt_irrefl _)
  | succ n => exact ev_call h ⟨_, ⟨d, h2.1, rfl, rfl, rfl⟩, fun _ _ h => h⟩
end
end FC
set_option maxHeartbeats 400000
/-! FP: a calculus for the mirrors: what a chain of binds yields. -/
namespace FC
open PySem PySem.Spec PyProof.Rows L2 Evl
section
variable {α β S R : Type}
def Ok (o : Option α) (P : α → Prop) : Prop := ∃ r, o = some r ∧ P r
theorem Ok.mk {a : α} {P : α → Prop} (h : P a) : Ok (some a) P := ⟨a, rfl, h⟩
theorem Ok.bind {o : Option α} {f : α → Option β} {P : α → Prop} {Q : β → Prop} (h : Ok o P) (k : ∀ a, P a → Ok (f a) Q) : Ok (o.bind f) Q := by
  obtain ⟨a, rfl, ha⟩ := h
  exact k a ha
theorem Ok.mono {o : Option α} {P Q : α → Prop} (h : Ok o P) (k : ∀ a, P a → Q a) : Ok o Q := by
  obtain ⟨a, e, ha⟩ := h
  exact ⟨a, e, k a ha⟩
theorem Ok.eq {o : Option α} {a : α} (h : Ok o (· = a)) : o = some a := by
  obtain ⟨b, e, rfl⟩ := h
  exact e
theorem Ok.of {o : Option α} {a : α} {f : α → Option β} {Q : β → Prop} (h : o = some a) (k : Ok (f a) Q) : Ok (o.bind f) Q := by
  subst h
  exact k
theorem Ok.with {o : Option α} {P : α → Prop} {a : α} (h : Ok o P) (e : o = some a) : P a := by
  obtain ⟨b, e2, hb⟩ := h
  rw [e] at e2
  exact Option.some.inj e2 ▸ hb
theorem ok_len {n : Nat} {f : Unit → Option β} {Q : β → Prop} (h : n ≤ 16000000) (k : Ok (f ()) Q) : Ok ((lenG n).bind f) Q := Ok.of (by unfold lenG; rw [if_pos h]) k
theorem ok_mul {i j : Int} {f : Int → Option β} {Q : β → Prop} (h : MulOk i j) (k : Ok (f (i * j)) Q) : Ok ((mulG i j).bind f) Q := Ok.of (by unfold mulG; rw [if_pos h]) k
theorem mulOk_l {i j : Int} (h : -(2 ^ 64) < i ∧ i < 2 ^ 64) : MulOk i j := .inl (.inl h)
theorem mulOk_r {i j : Int} (h : -(2 ^ 64) < j ∧ j < 2 ^ 64) : MulOk i j := .inl (.inr h)
theorem ok_mod {i j : Int} {f : Int → Option β} {Q : β → Prop} (h : 0 < j) (k : 0 ≤ i % j → i % j < j → Ok (f (i % j)) Q) : Ok ((modG i j).bind f) Q := Ok.of (by unfold modG; rw [if_pos h]) (k (Int.emod_nonneg _ (by omega)) (Int.emod_lt_of_pos _ h))
theorem ok_div {i j : Int} {f : Int → Option β} {Q : β → Prop} (h : 0 < j) (h2 : j < 1073741824) (k : Ok (f (i / j)) Q) : Ok ((fdivG i j).bind f) Q := by
  refine Ok.of ?_ k
  unfold fdivG
  rw [if_pos]
  refine .inr ⟨h, ?_⟩
  have h1 : j.natAbs < 2 ^ 30 := by
    have : (2 : Nat) ^ 30 = 1073741824 := by decide
    omega
  by_cases h0 : j.natAbs = 0
  · rw [h0]
    decide
  · have := (Nat.log2_lt h0).mpr h1
    omega
theorem getI_nat {xs : List α} {i : Int} {x : α} (h0 : 0 ≤ i) (h : xs[i.toNat]? = some x) : getI xs i = some x := by
  have e : ((i.toNat : Nat) : Int) = i := Int.toNat_of_nonneg h0
  have h2 := atI_nat (j := i.toNat) h
  rw [e] at h2
  exact h2
theorem ok_get {xs : List α} {i : Int} {f : α → Option β} {Q : β → Prop} (h0 : 0 ≤ i) (h1 : i < xs.length) (k : ∀ x, xs[i.toNat]? = some x → x ∈ xs → Ok (f x) Q) : Ok ((getI xs i).bind f) Q := by
  have hl : i.toNat < xs.length := by omega
  exact Ok.of (getI_nat h0 (List.getElem?_eq_getElem hl)) (k _ (List.getElem?_eq_getElem hl) (List.getElem_mem hl))
theorem ok_rng {a b : Int} {f : List Int → Option β} {Q : β → Prop} (h1 : -(2 ^ 62) ≤ a ∧ a < 2 ^ 62) (h2 : -(2 ^ 62) ≤ b ∧ b < 2 ^ 62) (k : Ok (f (rng a b)) Q) : Ok ((rngG a b).bind f) Q := Ok.of (by unfold rngG; rw [if_pos ⟨h1.1, h1.2, h2.1, h2.2⟩]) k
theorem rng_len (a b : Int) : (rng a b).length = (b - a).toNat := by
  unfold rng
  rw [List.length_map, List.length_range]
theorem mem_rng {a b i : Int} : i ∈ rng a b ↔ a ≤ i ∧ i < b := by
  unfold rng
  rw [List.mem_map]
  constructor
  · rintro ⟨j, hj, rfl⟩
    have := List.mem_range.mp hj
    omega
  · rintro ⟨h1, h2⟩
    exact ⟨(i - a).toNat, List.mem_range.mpr (by omega), by omega⟩
theorem ok_cond {b : Bool} {x y : Option α} {Q : α → Prop} (h1 : b = true → Ok x Q) (h2 : b = false → Ok y Q) : Ok (cond b x y) Q := by
  cases b
  · exact h2 rfl
  · exact h1 rfl
theorem mapO_of {step : α → Option β} {g : α → β} : ∀ {xs : List α}, (∀ x ∈ xs, step x = some (g x)) → mapO step xs = some (xs.map g)
  | [], _ => rfl
  | x :: xs, h => by
    show (step x).bind _ = _
    rw [h x List.mem_cons_self]
    show (mapO step xs).bind _ = _
    rw [mapO_of fun y hy => h y (List.mem_cons_of_mem _ hy)]
    rfl
theorem ok_mapO {step : α → Option β} {G : β → Prop} : ∀ {xs : List α}, (∀ x ∈ xs, Ok (step x) G) → Ok (mapO step xs) fun ys => ys.length = xs.length ∧ ∀ y ∈ ys, G y
  | [], _ => ⟨[], rfl, rfl, fun _ h => nomatch h⟩
  | x :: xs, h => by
    refine Ok.bind (h x List.mem_cons_self) fun y hy => Ok.bind (ok_mapO fun z hz => h z (List.mem_cons_of_mem _ hz)) fun ys hys => ?_
    refine Ok.mk ⟨by rw [List.length_cons, List.length_cons, hys.1], fun z hz => ?_⟩
    rcases List.mem_cons.mp hz with rfl | hz
    · exact hy
    · exact hys.2 z hz
/-- a loop; I: what holds behind the turns over a first part -/
theorem ok_forF {step : S → α → Option S} (I : List α → S → Prop) : ∀ {xs p : List α} {s : S}, I p s → (∀ q x r s, p ++ xs = q ++ x :: r → I q s → Ok (step s x) (I (q ++ [x]))) → Ok (forF step s xs) (I (p ++ xs))
  | [], p, s, h0, _ => ⟨s, rfl, by rw [List.append_nil]; exact h0⟩
  | x :: xs, p, s, h0, h => by
    refine Ok.bind (h p x xs s rfl h0) fun s' h' => ?_
    have e : p ++ x :: xs = (p ++ [x]) ++ xs := by rw [List.append_assoc]; rfl
    rw [e]
    exact ok_forF I h' fun q y r s hq => h q y r s (by rw [e]; exact hq)
theorem ok_for {step : S → α → Option S} (I : List α → S → Prop) {xs : List α} {s : S} (h0 : I [] s) (h : ∀ q x r s, xs = q ++ x :: r → I q s → Ok (step s x) (I (q ++ [x]))) : Ok (forF step s xs) (I xs) := ok_forF I (p := []) h0 h
/-- a loop whose state grows by the turn's number alone -/
theorem ok_forN {step : S → α → Option S} (I : Nat → S → Prop) {xs : List α} {s : S} (h0 : I 0 s) (h : ∀ n x s, x ∈ xs → n < xs.length → I n s → Ok (step s x) (I (n + 1))) : Ok (forF step s xs) (I xs.length) := by
  refine (ok_for (fun q s => I q.length s) h0 fun q x r s e hI => ?_)
  have h1 := h q.length x s (by rw [e]; simp) (by rw [e]; simp) hI
  exact h1.mono fun a ha => by rw [List.length_append]; exact ha
theorem ok_mapSN {step : S → α → Option (β × S)} (I : Nat → S → Prop) (G : β → Prop) : ∀ {xs : List α} {s : S} {k : Nat}, I k s → (∀ n x s, x ∈ xs → n < k + xs.length → I n s → Ok (step s x) fun r => G r.1 ∧ I (n + 1) r.2) → Ok (mapS step s xs) fun r => r.1.length = xs.length ∧ (∀ y ∈ r.1, G y) ∧ I (k + xs.length) r.2
  | [], s, k, h0, _ => ⟨([], s), rfl, rfl, (fun _ h => nomatch h), h0⟩
  | x :: xs, s, k, h0, h => by
    refine Ok.bind (h k x s List.mem_cons_self (by rw [List.length_cons]; omega) h0) fun r hr => Ok.bind (ok_mapSN I G (k := k + 1) hr.2 fun n y s hy hl => h n y s (List.mem_cons_of_mem _ hy) (by rw [List.length_cons]; omega)) fun r2 h2 => ?_
    refine Ok.mk ⟨by show (r.1 :: r2.1).length = _; rw [List.length_cons, List.length_cons, h2.1], fun z hz => ?_, ?_⟩
    · rcases List.mem_cons.mp hz with rfl | hz
      · exact hr.1
      · exact h2.2.1 z hz
    · have e : k + (x :: xs).length = k + 1 + xs.length := by rw [List.length_cons]; omega
      rw [e]
      exact h2.2.2
/-- a loop that is never left -/
theorem ok_forCp {step : S → α → Option (Ctl S R)} (I : List α → S → Prop) : ∀ {xs p : List α} {s : S}, I p s → (∀ q x r s, p ++ xs = q ++ x :: r → I q s → Ok (step s x) fun c => ∃ s', c = .nx s' ∧ I (q ++ [x]) s') → Ok (forC step s xs) fun c => ∃ s', c = .nx s' ∧ I (p ++ xs) s'
  | [], p, s, h0, _ => ⟨.nx s, rfl, s, rfl, by rw [List.append_nil]; exact h0⟩
  | x :: xs, p, s, h0, h => by
    refine Ok.bind (h p x xs s rfl h0) fun c hc => ?_
    obtain ⟨s', rfl, h'⟩ := hc
    have e : p ++ x :: xs = (p ++ [x]) ++ xs := by rw [List.append_assoc]; rfl
    rw [e]
    exact ok_forCp I h' fun q y r s hq => h q y r s (by rw [e]; exact hq)
theorem ok_forC {step : S → α → Option (Ctl S R)} (I : List α → S → Prop) {xs : List α} {s : S} (h0 : I [] s) (h : ∀ q x r s, xs = q ++ x :: r → I q s → Ok (step s x) fun c => ∃ s', c = .nx s' ∧ I (q ++ [x]) s') : Ok (forC step s xs) fun c => ∃ s', c = .nx s' ∧ I xs s' := ok_forCp I (p := []) h0 h
/-- the same where nothing but the item matters -/
theorem ok_forC0 {step : Unit → α → Option (Ctl Unit R)} {xs : List α} (h : ∀ x ∈ xs, step () x = some (.nx ())) : forC step () xs = some (.nx ()) := by
  obtain ⟨c, e, s, rfl, _⟩ := ok_forC (xs := xs) (fun _ _ => True) (step := step) (s := ()) True.intro fun q x r s e _ => ⟨.nx (), h x (by rw [e]; simp), (), rfl, True.intro⟩
  exact e
theorem cutI_take (xs : List α) (k : Int) (h : 0 ≤ k) : cutI xs none (some k) = xs.take k.toNat := by
  obtain ⟨n, rfl⟩ := Int.eq_ofNat_of_zero_le h
  unfold cutI
  rw [show HT.sIx xs.length 0 none = 0 from rfl, show HT.sIx xs.length xs.length (some ((n : Nat) : Int)) = min n xs.length from HT.sIx_nat xs.length xs.length n]
  show List.take (min n xs.length - 0) xs = xs.take ((n : Nat) : Int).toNat
  rw [Int.toNat_natCast, Nat.sub_zero]
  by_cases hn : n ≤ xs.length
  · rw [Nat.min_eq_left hn]
  · rw [Nat.min_eq_right (by omega), List.take_length, List.take_of_length_le (by omega)]
end
/-! ### the first least one -/
section
variable {α : Type}
def FM (c : α → Int) (l : List α) (m : α) : Prop := ∃ l1 l2, l = l1 ++ m :: l2 ∧ (∀ x ∈ l1, c m < c x) ∧ ∀ x ∈ l2, c m ≤ c x
theorem FM.mem {c : α → Int} {l : List α} {m : α} (h : FM c l m) : m ∈ l := by
  obtain ⟨l1, l2, rfl, _⟩ := h
  simp
theorem FM.le {c : α → Int} {l : List α} {m : α} (h : FM c l m) {x : α} (hx : x ∈ l) : c m ≤ c x := by
  obtain ⟨l1, l2, rfl, h1, h2⟩ := h
  rcases List.mem_append.mp hx with hx | hx
  · exact Int.le_of_lt (h1 x hx)
  · rcases List.mem_cons.mp hx with rfl | hx
    · exact Int.le_refl _
    · exact h2 x hx
theorem FM.uniq {c : α → Int} {l : List α} {m m' : α} (h : FM c l m) (h' : FM c l m') : m = m' := by
  obtain ⟨l1, l2, rfl, h1, h2⟩ := h
  obtain ⟨k1, k2, e, g1, g2⟩ := h'
  have := List.append_eq_append_iff.mp e
  rcases this with ⟨as, e1, e2⟩ | ⟨bs, e1, e2⟩
  · cases as with
    | nil => exact (List.cons.inj e2).1
    | cons a as =>
      have ea := (List.cons.inj e2).1
      have i1 := g1 m (by rw [e1, ea]; simp)
      have i2 := h2 m' (by rw [(List.cons.inj e2).2]; simp)
      omega
  · cases bs with
    | nil => exact (List.cons.inj e2).1.symm
    | cons b bs =>
      have eb := (List.cons.inj e2).1
      have i1 := h1 m' (by rw [e1, eb]; simp)
      have i2 := g2 m (by rw [(List.cons.inj e2).2]; simp)
      omega
theorem FM.congr {c d : α → Int} {l : List α} {m : α} (h : FM c l m) (e : ∀ x ∈ l, c x = d x) : FM d l m := by
  have hm := e m h.mem
  obtain ⟨l1, l2, rfl, h1, h2⟩ := h
  refine ⟨l1, l2, rfl, fun x hx => ?_, fun x hx => ?_⟩
  · rw [← hm, ← e x (by simp [hx])]
    exact h1 x hx
  · rw [← hm, ← e x (by simp [hx])]
    exact h2 x hx
theorem FM.one (c : α → Int) (a : α) : FM c [a] a := ⟨[], [], rfl, (fun _ h => nomatch h), fun _ h => nomatch h⟩
theorem FM.snoc {c : α → Int} {l : List α} {m y : α} (h : FM c l m) : FM c (l ++ [y]) (if c y < c m then y else m) := by
  by_cases hy : c y < c m
  · rw [if_pos hy]
    exact ⟨l, [], rfl, fun x hx => Int.lt_of_lt_of_le hy (h.le hx), fun _ h => nomatch h⟩
  · rw [if_neg hy]
    obtain ⟨l1, l2, rfl, h1, h2⟩ := h
    refine ⟨l1, l2 ++ [y], by simp, h1, fun x hx => ?_⟩
    rcases List.mem_append.mp hx with hx | hx
    · exact h2 x hx
    · rw [List.mem_singleton.mp hx]
      omega
/-- the least of a list, by an order that is c's at later items -/
theorem fm_fold {c : α → Int} {lt : α → α → Bool} : ∀ {xs p : List α} {m : α}, FM c p m → (∀ q y r, p ++ xs = q ++ y :: r → ∀ z ∈ q, lt y z = decide (c y < c z)) → FM c (p ++ xs) (xs.foldl (fun a y => if lt y a = true then y else a) m)
  | [], p, m, h, _ => by rw [List.append_nil]; exact h
  | y :: xs, p, m, h, hl => by
    have e : p ++ y :: xs = (p ++ [y]) ++ xs := by rw [List.append_assoc]; rfl
    rw [e, List.foldl_cons]
    refine fm_fold (p := p ++ [y]) ?_ fun q z r hq => hl q z r (by rw [e]; exact hq)
    have h1 := hl p y xs rfl m h.mem
    rw [h1]
    have h2 := h.snoc (y := y)
    by_cases hy : c y < c m
    · rw [if_pos hy] at h2
      rw [if_pos (decide_eq_true hy)]
      exact h2
    · rw [if_neg hy] at h2
      rw [if_neg (fun z => hy (of_decide_eq_true z))]
      exact h2
theorem fm_minL {c : α → Int} {lt : α → α → Bool} {x : α} {xs : List α} (hl : ∀ q y r, x :: xs = q ++ y :: r → ∀ z ∈ q, lt y z = decide (c y < c z)) : ∃ m, minL lt (x :: xs) = some m ∧ FM c (x :: xs) m :=
  ⟨_, rfl, fm_fold (p := [x]) (FM.one c x) fun q y r e => hl q y r e⟩
end
/-- the law's own call -/
theorem law_start {K : PySem.W.Frag} {F : Pf} {a : Addr} {ns : List Int} {H : Hp} {E : XK} (hF : ∃ R, F [.sl a ns] [] R ∧ ∀ r m2, R r m2 → r = .da (dB true)) (hS : SqL K H a (ns.map V.int)) : spOf K F [.ref a] H (fun v _ => v = .bl true) E := by
  obtain ⟨R, h1, h2⟩ := hF
  refine ⟨H, [.sl a ns], [], R, h1, ⟨fun _ _ h => h, List.nodup_nil, (fun _ h => nomatch h), fun _ h => nomatch h⟩, ⟨⟨rfl, hS⟩, True.intro⟩, fun v B2 H2 r m2 hr _ _ hv => ?_⟩
  have e := h2 r m2 hr
  subst e
  exact bl_of hv
end FC
set_option maxHeartbeats 400000
/-! FK: bits, tests that may fail, reversed, insert, pop, clear, calls that give a new list. -/
namespace FC
open PySem PySem.Spec PyProof.Rows L2 Evl
section
variable {K : PySem.W.Frag} {B H : Hp} {ds : List SD} {m m1 m2 m' mc mc' : M} {α β S : Type} {f : α → PyData} {f2 : β → PyData} {tl te ta to ti : TE} {t : TA} {tt : TT} {wi : TI} {g : TG} {G : M → Prop} {rs : List SD} {c : SD} {F : Pf} {E : XK}
/-! ### bits -/
def shlG (i j : Int) : Option Int := if CPow i j then some (i * 2 ^ j.toNat) else none
def shrG (i j : Int) : Option Int := if 0 ≤ j then some (i / 2 ^ j.toNat) else none
theorem rr_shl {i j k : Int} (h : shlG i j = some k) : Rr K (rI CPow fun i j => .int (i * 2 ^ j.toNat)) (.da (dI i)) (.da (dI j)) m (.da (dI k)) m := by
  unfold shlG at h
  split at h
  · rename_i q
    exact rr_c (f := fun i j => i * 2 ^ j.toNat) q (Option.some.inj h)
  · cases h
theorem rr_shr {i j k : Int} (h : shrG i j = some k) : Rr K (rI (fun _ j => 0 ≤ j) fun i j => .int (i / 2 ^ j.toNat)) (.da (dI i)) (.da (dI j)) m (.da (dI k)) m := by
  unfold shrG at h
  split at h
  · rename_i q
    exact rr_c (C := fun _ j => 0 ≤ j) (f := fun i j => i / 2 ^ j.toNat) q (Option.some.inj h)
  · cases h
/-! ### a comprehension with a test that may fail -/
theorem filO_tests {test : α → Option Bool} {step : α → Option β} : ∀ {items : List α} {out : List β}, filO test step items = some out → ∀ x ∈ items, ∃ b, test x = some b
  | [], _, _, x, hx => nomatch hx
  | y :: r, out, h, x, hx => by
    obtain ⟨b, h1, h2⟩ := bindS h
    rcases List.mem_cons.mp hx with rfl | hx
    · exact ⟨b, h1⟩
    · cases b with
      | true =>
        obtain ⟨_, _, h2⟩ := bindS h2
        obtain ⟨ys, h4, _⟩ := bindS h2
        exact filO_tests h4 x hx
      | false => exact filO_tests h2 x hx
theorem filO_pureT {test : α → Option Bool} {step : α → Option β} : ∀ {items : List α} {out : List β}, filO test step items = some out → filO (fun x => some ((test x).getD false)) step items = some out
  | [], _, h => h
  | y :: r, out, h => by
    obtain ⟨b, h1, h2⟩ := bindS h
    show (some ((test y).getD false)).bind _ = _
    rw [h1]
    show cond b _ _ = _
    cases b with
    | true =>
      obtain ⟨y', h3, h2⟩ := bindS h2
      obtain ⟨ys, h4, h2⟩ := bindS h2
      show (step y).bind _ = _
      rw [h3]
      show (filO _ step r).bind _ = _
      rw [filO_pureT h4]
      exact h2
    | false => exact filO_pureT h2
theorem lc_filO {items : List α} {up : α → List SD → List SD} {js vs : List Nat} {test : α → Option Bool} {step : α → Option β} {out : List β} (hs : Src K wi g ds m m1 G items up js) (hjs : ∀ j ∈ js, j ∈ vs) (hG : ∀ c, G (m1 ++ c)) (hn : lenG items.length = some ())
    (h : filO test step items = some out) (bt : ∀ x b, x ∈ items → test x = some b → EvT K tt (up x (wipeD ds vs)) m1 b m1) (body : ∀ x y, x ∈ items → test x = some true → step x = some y → Ev K te (up x (wipeD ds vs)) m1 (.da (f2 y)) m1) :
    ∀ B H σ, SOk K B m H → StOk K B ds σ → ∀ Q : VK, (∀ p B2 H2, Tr B H (keys m) B2 H2 (keys (m1 ++ [(p, .ls (out.map f2))])) → SOk K B2 (m1 ++ [(p, .ls (out.map f2))]) H2 → H p = none → Q (.ref p) H2) → tLc wi g tt te vs σ H Q :=
  lc_fil (test := fun x => (test x).getD false) hs hjs hG hn (filO_pureT h) (fun x hx => by
    obtain ⟨b, hb⟩ := filO_tests h x hx
    rw [hb]
    exact bt x b hx hb) fun x y hx hb hy => by
    obtain ⟨b, hb2⟩ := filO_tests h x hx
    rw [hb2] at hb
    have hb' : b = true := hb
    subst hb'
    exact body x y hx hb2 hy
/-! ### reversed -/
theorem src_RvR {a b : Int} {xs : List Int} {j : Nat} {tr : L2.St → Hp → (Int → Int → Hp → Prop) → Prop}
    (h : ∀ B H σ, SOk K B m H → StOk K B ds σ → ∀ Q : Int → Int → Hp → Prop, (∀ B2 H2, Tr B H (keys m) B2 H2 (keys m1) → SOk K B2 m1 H2 → Q a b H2) → tr σ H Q) (hx : rngG a b = some xs) :
    Src K (iRevR tr) (gName j) ds m m1 (fun _ => True) xs.reverse (fun x ds => ds.set j (.da (dI x))) [j] := fun B H σ s st R q => h B H σ s st _ fun B1 H1 t1 s1 => by
  obtain ⟨⟨h1, h2, h3, h4⟩, rfl⟩ := rngG_some hx
  refine ⟨h1, h2, h3, h4, q _ B1 H1 t1 s1 ?_⟩
  have hl : (rng a b).length = (b - a).toNat := by
    unfold rng
    rw [List.length_map, List.length_range]
  refine ⟨fun i H B' m' hi e g s => ?_, fun H B' m' e g s => ?_, fun i x v H H' B' m' ds σ hx e g s st hy Q q => ?_⟩
  · rw [List.length_reverse, hl] at hi
    exact hi
  · rw [List.length_reverse, hl]
    exact Nat.le_refl _
  · obtain ⟨rfl, rfl⟩ := hy
    have hi : i < (rng a b).reverse.length := (List.getElem?_eq_some_iff.mp hx).1
    rw [List.length_reverse] at hi
    rw [List.getElem?_reverse hi, hl] at hx
    unfold rng at hx
    rw [List.getElem?_map, List.getElem?_range (by omega)] at hx
    have hx' : a + (((b - a).toNat - 1 - i : Nat) : Int) = x := Option.some.inj hx
    rw [hl] at hi
    have e : a + (((b - a).toNat : Nat) : Int) - 1 + (i : Nat) * (-1) = x := by
      rw [← hx']
      omega
    rw [e]
    exact tg_name s st (.int _) Q q
theorem tr_1 {n : Int} (h : Ev K ta ds m (.da (dI n)) m1) : ∀ B H σ, SOk K B m H → StOk K B ds σ → ∀ Q : Int → Int → Hp → Prop, (∀ B2 H2, Tr B H (keys m) B2 H2 (keys m1) → SOk K B2 m1 H2 → Q 0 n H2) → tRg1 ta σ H Q := fun B H σ s st Q q => h B H σ s st _ fun v B2 H2 t s2 d => ⟨n, int_of d, q B2 H2 t s2⟩
theorem src_RvL {xs : List α} {j : Nat} (h : EvA K t ds m [.da (dL f xs)] m1) : Src K (iRev K t) (gName j) ds m m1 (fun _ => True) xs.reverse (fun x ds => ds.set j (.da (f x))) [j] := fun B H σ s st R q => h B H σ s st _ fun vs B1 H1 t1 s1 d1 => by
  obtain ⟨v, rfl, d⟩ := sda1 d1
  obtain ⟨p, ws, rfl, hp, ha⟩ := lst_of d
  have hl := dpa_len ha
  rw [List.length_map] at hl
  have hL : ∀ {H B' m'}, Ex B1 B' → SOk K B' m' H → SqL K H p ws := fun e s => SqL.of (s.ext _ _ (e _ _ hp))
  refine ⟨p, ws, rfl, SqL.of (s1.ext _ _ hp), q _ B1 H1 t1 s1 ⟨fun i H B' m' hi e g s => ?_, fun H B' m' e g s => ?_, fun i x v H H' B' m' ds σ hx e g s st hy Q q => ?_⟩⟩
  · rw [List.length_reverse] at hi
    have hi' : ws.length - 1 - i < ws.length := by omega
    exact ⟨by omega, ws, ws[ws.length - 1 - i], hL e s, List.getElem?_eq_getElem hi'⟩
  · rw [List.length_reverse]
    exact Nat.le_of_eq hl
  · obtain ⟨rfl, y2⟩ := hy
    have hi : i < xs.reverse.length := (List.getElem?_eq_some_iff.mp hx).1
    rw [List.length_reverse] at hi
    rw [List.getElem?_reverse hi, ← hl] at hx
    obtain ⟨w, h1, h2⟩ := dqa_some ha hx
    have h3 := y2 ws (hL e s)
    rw [h1] at h3
    rw [← Option.some.inj h3]
    exact tg_name s st (dp_mono e h2) Q q
theorem ev_revL {xs : List α} (h : Ev K te ds m (.da (dL f xs)) m1) : Ev K (tRevL K te) ds m (.da (dL f xs.reverse)) m1 := fun B H σ s st Q q => h B H σ s st _ fun v B1 H1 t1 s1 d1 => by
  obtain ⟨p, ws, rfl, hp, ha⟩ := lst_of d1
  refine ⟨p, ws, rfl, SqL.of (s1.ext _ _ hp), fun l hl => q _ _ _ (t1.trans (Tr.data s1 hl)) (s1.data hl) (Dq.lst upd_same ?_)⟩
  rw [List.map_reverse]
  exact dqa_rev (dpa_mono (Ex.new (fresh_b s1 hl)) ha)
where
  dqa_rev {B : Hp} : ∀ {vs : List V} {dl : List PyData}, DqAll B vs dl → DqAll B vs.reverse dl.reverse
    | _, _, .nil => .nil
    | _, _, .cons h t => by
      rw [List.reverse_cons, List.reverse_cons]
      exact dqa_app (dqa_rev t) (.cons h .nil)
theorem ev_revC {xs : List α} {l : Addr} (j : Nat) (h : Ev K te ds m (.rf l) m1) (hj : m1[j]? = some (l, .ls (xs.map f))) : Ev K (tRevL K te) ds m (.da (dL f xs.reverse)) m1 := fun B H σ s st Q q => h B H σ s st _ fun v B1 H1 t1 s1 d1 => by
  have e : v = .ref l := d1
  subst e
  obtain ⟨ws, hp, ha⟩ := s1.ls hj
  refine ⟨l, ws, rfl, SqL.of hp, fun p hl => q _ _ _ (t1.trans (Tr.data s1 hl)) (s1.data hl) (Dq.lst upd_same ?_)⟩
  rw [List.map_reverse]
  exact ev_revL.dqa_rev (dpa_mono (Ex.new (fresh_b s1 hl)) ha)
/-! ### a list's methods -/
def rIns : V → List V → Hp → VK → Prop := fun x vs H Q => ∃ (l : Addr) (xs : List V) (i : Int) (y : V), x = .ref l ∧ vs = [.int i, y] ∧ H l = some (.lst xs) ∧ xs.length < sizeLine ∧ 0 ≤ i ∧ i < 2 ^ 63 ∧
    Q .non (upd H l (.lst (xs.take i.toNat ++ [y] ++ xs.drop i.toNat)))
def insI (xs : List α) (i : Int) (x : α) : Option (List α) := if 0 ≤ i ∧ i < 2 ^ 63 ∧ xs.length ≤ 16000000 then some (xs.take i.toNat ++ [x] ++ xs.drop i.toNat) else none
theorem rm_ins {xs ys : List α} {i : Int} {x : α} {l : Addr} (j : Nat) (hj : m[j]? = some (l, .ls (xs.map f))) (hz : insI xs i x = some ys) : Rm K rIns (.rf l) [.da (dI i), .da (f x)] m (.da .none) (m.set j (l, .ls (ys.map f))) := fun B H v vs s dx da Q q => by
  obtain ⟨y, w, rfl, d1, d2⟩ := sda2 da
  obtain ⟨ws, hp, ha⟩ := s.ls hj
  have h1 := dpa_len ha
  rw [List.length_map] at h1
  unfold insI at hz
  split at hz
  · rename_i hc
    have e := Option.some.inj hz
    subst e
    refine ⟨l, ws, i, w, dx, by rw [int_of d1], hp, by rw [sizeLine_eq]; omega, hc.1, hc.2.1, q _ _ _ (Tr.put s hj ?_) (s.put hj ?_) .non⟩
    all_goals
      rw [List.map_append, List.map_append, List.map_take, List.map_drop]
      exact dqa_app (dqa_app (dqa_take _ ha) (.cons d2 .nil)) (dqa_drop _ ha)
  · cases hz
def popI (xs : List α) (i : Int) : Option (α × List α) := if -(2 ^ 63) ≤ i ∧ i < 2 ^ 63 then (ixN xs.length i).bind fun k => (xs[k]?).bind fun x => some (x, xs.eraseIdx k) else none
theorem dqa_erase {B : Hp} : ∀ {vs : List V} {dl : List PyData} (k : Nat), DqAll B vs dl → DqAll B (vs.eraseIdx k) (dl.eraseIdx k)
  | _, _, _, .nil => .nil
  | _, _, 0, .cons h t => t
  | _, _, k + 1, .cons h t => .cons h (dqa_erase k t)
theorem map_erase (f : α → PyData) : ∀ (xs : List α) (k : Nat), (xs.eraseIdx k).map f = (xs.map f).eraseIdx k
  | [], _ => rfl
  | _ :: _, 0 => rfl
  | x :: xs, k + 1 => by
    show f x :: (xs.eraseIdx k).map f = f x :: (xs.map f).eraseIdx k
    rw [map_erase f xs k]
theorem rm_popI {xs ys : List α} {i : Int} {x : α} {l : Addr} (j : Nat) (hj : m[j]? = some (l, .ls (xs.map f))) (hz : popI xs i = some (x, ys)) : Rm K rPopAt (.rf l) [.da (dI i)] m (.da (f x)) (m.set j (l, .ls (ys.map f))) := fun B H v vs s dx da Q q => by
  obtain ⟨y, rfl, d1⟩ := sda1 da
  obtain ⟨ws, hp, ha⟩ := s.ls hj
  have h1 := dpa_len ha
  rw [List.length_map] at h1
  unfold popI at hz
  split at hz
  · rename_i hc
    obtain ⟨k, e1, hz⟩ := bindS hz
    obtain ⟨x', e2, hz⟩ := bindS hz
    have e := Option.some.inj hz
    injection e with e3 e4
    subst e3 e4
    obtain ⟨g1, g2, _, _⟩ := ixN_seq e1
    obtain ⟨w, g3, g4⟩ := dqa_some ha e2
    refine ⟨l, ws, i, k, w, dx, by rw [int_of d1], hp, hc.1, hc.2, by rw [h1]; exact g1, g3, q _ _ _ (Tr.put s hj ?_) (s.put hj ?_) g4⟩
    all_goals
      rw [map_erase]
      exact dqa_erase k ha
  · cases hz
theorem rm_clear {xs : List α} {l : Addr} (j : Nat) (hj : m[j]? = some (l, .ls (xs.map f))) : Rm K rClear (.rf l) [] m (.da .none) (m.set j (l, .ls (([] : List α).map f))) := fun B H v vs s dx da Q q => by
  obtain ⟨ws, hp, ha⟩ := s.ls hj
  have e : vs = [] := by
    cases vs with
    | nil => rfl
    | cons a b => exact da.elim
  subst e
  exact ⟨l, ws, dx, rfl, hp, q _ _ _ (Tr.put s hj (show CdOk K B (.ls (([] : List α).map f)) (.lst []) from .nil)) (s.put hj (show CdOk K B (.ls (([] : List α).map f)) (.lst []) from .nil)) .non⟩
/-! ### calls that give a new list -/
theorem en_callP {fr : M} {cd : CD} (h : EvA K t ds m rs m1) (hp : (mc ++ fr).Perm m1) (hp' : (mc' ++ fr).Perm m2) (hF : ∃ R, F rs mc R ∧ ∀ r mz, R r mz → ∃ p, r = .rf p ∧ mz = mc' ++ [(p, cd)]) : EvN K (tCall (spOf K F) [] E t) ds m cd m2 := fun B H σ s st Q q =>
  (eg_call (A := Addr) (r := SD.rf) (Good := fun p mN => mN = [(p, cd)]) h hp hp' (hF.imp fun R hR => ⟨hR.1, fun c mz hc => by
    obtain ⟨p, e1, e2⟩ := hR.2 c mz hc
    exact ⟨p, _, e1, e2, rfl⟩⟩)) B H σ s st Q fun v p mN B2 H2 hg t2 s2 d2 => by
      subst hg
      have e : v = .ref p := d2
      subst e
      exact q p B2 H2 t2 s2
theorem en_methP (j : Nat) {mt : Str} {fr m3 : M} {cd : CD} {p C dx : Addr} {names : List Str} {sds : List SD} (ho : Ev K ta ds m (.rf p) m1) (hj : m1[j]? = some (p, obj C dx names sds)) (hl : sds.length ≤ names.length) (hm : mt ∉ names) (h : EvA K t ds m1 rs m2) (hp : (mc ++ fr).Perm m2) (hp' : (mc' ++ fr).Perm m3)
    (hF : ∃ R, F (.rf p :: rs) mc R ∧ ∀ r mz, R r mz → ∃ p, r = .rf p ∧ mz = mc' ++ [(p, cd)]) : EvN K (tMeth C mt (spOf K F) [] E ta t) ds m cd m3 := fun B H σ s st Q q =>
  ho B H σ s st _ fun x B1 H1 t1 s1 d1 => by
    have e : x = .ref p := d1
    subst e
    obtain ⟨vs, h1, _, _⟩ := s1.ob hj hl
    refine ⟨p, dx, _, rfl, h1, lookup_no (zip_keys hm), h B1 H1 σ s1 (st_mono t1.ex st) _ fun us B2 H2 t2 s2 d2 => ?_⟩
    rw [List.append_nil]
    obtain ⟨R, hR, hq⟩ := hF
    have s2' : SOk K B2 (mc ++ fr) H2 := s2.perm hp
    refine ⟨B2, .rf p :: rs, mc, R, hR, s2'.sub (List.sublist_append_left _ _), ⟨rfl, d2⟩, fun v B3 H3 c mz hr t3 s3 d3 => ?_⟩
    obtain ⟨a, rfl, rfl⟩ := hq c mz hr
    obtain ⟨t4, s4⟩ := fr_ok s2' t3 s3
    have pz : (mc' ++ [(a, cd)] ++ fr).Perm (m3 ++ [(a, cd)]) := by
      have e1 : (mc' ++ [(a, cd)] ++ fr).Perm (mc' ++ fr ++ [(a, cd)]) := by
        rw [List.append_assoc, List.append_assoc]
        exact List.Perm.append_left mc' List.perm_append_comm
      exact e1.trans (hp'.append_right _)
    have ev : v = .ref a := d3
    subst ev
    exact q a B3 H3 ((t1.trans t2).trans (t4.perm (fun a => (hp.map Prod.fst).mem_iff) (fun a => (pz.map Prod.fst).mem_iff))) (s4.perm pz.symm)
/-- a new list, taken as data at once -/
theorem ev_frz {dl : List PyData} (h : EvN K te ds m (.ls dl) m1) (hk : keys m1 = keys m) : Ev K te ds m (.da (.list dl)) m1 := fun B H σ s st Q q => h B H σ s st _ fun p B2 H2 t2 s2 => by
  have hj : (m1 ++ [(p, CD.ls dl)])[m1.length]? = some (p, .ls dl) := by
    rw [List.getElem?_append_right (Nat.le_refl _), Nat.sub_self]
    rfl
  obtain ⟨ws, h1, h2⟩ := s2.ls hj
  have he : (m1 ++ [(p, CD.ls dl)]).eraseIdx m1.length = m1 := by
    rw [List.eraseIdx_append_of_length_le (Nat.le_refl _), Nat.sub_self]
    exact List.append_nil _
  have hB2 : B2 p = none := s2.out (p, .ls dl) (List.mem_append_right _ (List.mem_singleton.mpr rfl))
  have hnew : p ∉ keys m := fun z => by
    have nd := s2.nd
    rw [keys_app] at nd
    exact (List.nodup_append.mp nd).2.2 p (by rw [hk]; exact z) p (List.mem_singleton.mpr rfl) rfl
  have t3 := t2.frz s2 (fun a ha => by
    obtain ⟨c, hc, e⟩ := List.mem_map.mp ha
    rw [← e]
    exact s.ne hc) (o := .lst ws) hj hnew
  have s3 := s2.frz hj h1
  rw [he] at t3 s3
  exact q _ _ _ t3 s3 (Dq.lst upd_same (dpa_mono (Ex.new hB2) h2))
/-- e.clear(), e a new list that is needed no more -/
theorem ev_clrN {dl : List PyData} (h : EvN K te ds m (.ls dl) m1) : Ev K (tBM0 K "list" rClear te) ds m (.da .none) m1 := fun B H σ s st Q q => h B H σ s st _ fun p B2 H2 t2 s2 => by
  have hj : (m1 ++ [(p, CD.ls dl)])[m1.length]? = some (p, .ls dl) := by
    rw [List.getElem?_append_right (Nat.le_refl _), Nat.sub_self]
    rfl
  obtain ⟨ws, h1, h2⟩ := s2.ls hj
  have hc : CdOk K B2 (.ls []) (.lst []) := DqAll.nil
  have s3 := s2.put hj hc
  have t3 := Tr.put s2 hj hc
  have hset : (m1 ++ [(p, CD.ls dl)]).set m1.length (p, .ls []) = m1 ++ [(p, .ls [])] := by
    rw [List.set_append_right _ _ (Nat.le_refl _), Nat.sub_self]
    rfl
  rw [hset] at s3 t3
  have sub : m1.Sublist (m1 ++ [(p, CD.ls [])]) := List.sublist_append_left _ _
  exact ⟨tyv_of (B := B2) h1, p, ws, rfl, rfl, h1, q _ _ _ ((t2.trans t3).sub fun a z => (sub.map _).subset z) (s3.sub sub) .non⟩
/-- list(xs), sorted(xs) as a new cell -/
theorem rcn_listL {xs : List α} : RcN K (rListOf K) [.da (dL f xs)] m (.ls (xs.map f)) m := fun B H vs s dx Q q => by
  obtain ⟨v, rfl, d1⟩ := sda1 dx
  obtain ⟨p, ws, rfl, hp, ha⟩ := lst_of d1
  exact ⟨p, ws, rfl, .inl (SqL.of (s.ext _ _ hp)), fun l hl => q l _ _ (Tr.cell s hl) (s.cell hl ha)⟩
theorem rcn_listC {xs : List α} {l : Addr} (j : Nat) (hj : m[j]? = some (l, .ls (xs.map f))) : RcN K (rListOf K) [.rf l] m (.ls (xs.map f)) m := fun B H vs s dx Q q => by
  obtain ⟨v, rfl, d1⟩ := sda1 dx
  obtain ⟨ws, hp, ha⟩ := s.ls hj
  have e : v = .ref l := d1
  exact ⟨l, ws, by rw [e], .inl (SqL.of hp), fun p hl => q p _ _ (Tr.cell s hl) (s.cell hl ha)⟩
theorem rcn_srt [DecidableEq α] [EncO f] [SrtOk f] {xs : List α} (hd : Enc.dep f ≤ 60) : RcN K (rSrtP K) [.da (dL f xs)] m (.ls ((srt (EncO.lt f) xs).map f)) m := fun B H vs s dx Q q => by
  obtain ⟨v, rfl, d1⟩ := sda1 dx
  obtain ⟨p, ws, rfl, hp, ha⟩ := lst_of d1
  exact rc_srtAux hd (SrtOk.ok xs) s (s.ext _ _ hp) ha Q fun ys p h hp => q p _ _ (Tr.cell s hp) (s.cell hp h)
/-- xs * n -/
def repI (xs : List α) (n : Int) : Option (List α) := if -(2 ^ 63) ≤ n ∧ n < 2 ^ 63 ∧ xs.length * n.toNat ≤ 16000000 then some ((List.replicate n.toNat xs).flatten) else none
theorem dqa_rep {B : Hp} {vs : List V} {dl : List PyData} (h : DqAll B vs dl) : ∀ n : Nat, DqAll B (List.replicate n vs).flatten (List.replicate n dl).flatten
  | 0 => .nil
  | n + 1 => by
    rw [List.replicate_succ, List.replicate_succ, List.flatten_cons, List.flatten_cons]
    exact dqa_app h (dqa_rep h n)
theorem rr_rep {xs ys : List α} {n : Int} (h : repI xs n = some ys) : Rr K rRep (.da (dL f xs)) (.da (dI n)) m (.da (dL f ys)) m := fun B H x y s dx dy Q q => by
  obtain ⟨p, ws, rfl, hp, ha⟩ := lst_of dx
  have h1 := dpa_len ha
  rw [List.length_map] at h1
  unfold repI at h
  split at h
  · rename_i hc
    have e := Option.some.inj h
    subst e
    refine ⟨p, n, ws, rfl, int_of dy, s.ext _ _ hp, hc.1, hc.2.1, by rw [sizeLine_eq, h1]; omega, fun l hl => q _ _ _ (Tr.data s hl) (s.data hl) (Dq.lst upd_same ?_)⟩
    rw [List.map_flatten, List.map_replicate]
    exact dqa_rep (dpa_mono (Ex.new (fresh_b s hl)) ha) _
  · cases h
/-- an expression that gives a truth value and needs no cell but one, which it reads as data -/
theorem ev_look {i j : Nat} {l : Addr} {dl : List PyData} {b : Bool} (hi : ds[i]? = some (.rf l)) (hj : m[j]? = some (l, .ls dl)) (h : Ev K te (ds.set i (.da (.list dl))) [] (.da (.bool b)) []) : Ev K te ds m (.da (.bool b)) m := fun B H σ s st Q q => by
  obtain ⟨vs, h1, h2⟩ := s.ls hj
  have hB : B l = none := s.out (l, .ls dl) (List.mem_of_getElem? hj)
  obtain ⟨o, e, w⟩ := st_get st hi
  obtain ⟨v, rfl, w⟩ := sl_some (s := .rf l) (fun z => nomatch z) w
  have ev : v = .ref l := w
  subst ev
  have ee := Ex.new (o := .lst vs) hB
  have st2 := st_set (K := K) i (st_mono ee st) (s := .da (.list dl)) (o := some (.ref l)) (Dq.lst upd_same (dpa_mono ee h2))
  rw [set_same e] at st2
  have s2 : SOk K (upd B l (.lst vs)) [] H := (s.frz hj h1).sub (List.nil_sublist _)
  refine h _ H σ s2 st2 Q fun v B2 H2 t2 s3 d2 => ?_
  have kp : ∀ a o, H a = some o → H2 a = some o := fun a o => t2.keep a o (fun z => nomatch z)
  refine q v B H2 ⟨Ex.refl _, fun _ _ _ z => z, t2.tp, fun a o _ z => kp a o z, fun _ z => .inl z, t2.grow⟩ ⟨fun a o z => kp a o (s.ext a o z), s.nd, s.out, fun p hp => ?_⟩ ?_
  · obtain ⟨o, g1, g2⟩ := s.cel p hp
    exact ⟨o, kp _ _ g1, g2⟩
  · have d' : Dq B2 v (.bool b) := d2
    cases d'
    exact .bl b
/-- a statement over a dict that is locked the while -/
theorem wp_lockS {Fx0 : Fx} {D : Ends} {tz ts : TS} {ds' : List SD} {l : Addr} (j : Nat) {kvs : List (Key × PyData)} (hj : m[j]? = some (l, .dk kvs))
    (h : ∀ od ws D', (∀ σ H, At Fx0 ds' (m'.set j (l, .lk od ws kvs)) σ H → D'.nx σ H) → Wp Fx0 (tSeq ts tNext) D' ds (m.set j (l, .lk od ws kvs))) (hj' : m'[j]? = some (l, .dk kvs)) (k : Wp Fx0 tz D ds' m') : Wp Fx0 (tSeq (tLock ts) tz) D ds m := fun σ H ⟨B, st, s, t, lo⟩ => by
  obtain ⟨ws, h1, h2⟩ := s.dk' hj
  refine ⟨l, .dK ws, h1, True.intro, fun od => ?_⟩
  have cd : CdOk Fx0.K B (.lk od ws kvs) (.frz od (.dK ws)) := ⟨rfl, rfl, h2⟩
  refine h od ws ⟨fun σ' H' => H' l = some (.frz od (.dK ws)) ∧ tz D σ' (upd H' l (.dK ws)), fun v H' => H' l = some (.frz od (.dK ws)) ∧ D.rt v (upd H' l (.dK ws)), fun σ' H' => H' l = some (.frz od (.dK ws)) ∧ D.bk σ' (upd H' l (.dK ws)), fun σ' H' => H' l = some (.frz od (.dK ws)) ∧ D.ct σ' (upd H' l (.dK ws))⟩ ?_ σ _ ⟨B, st, s.put hj cd, t.trans (Tr.put s hj cd), lo⟩
  rintro σ2 H2 ⟨B2, st2, s2, t2, lo2⟩
  have hl' := (List.getElem?_eq_some_iff.mp hj').1
  have hj2 : (m'.set j (l, CD.lk od ws kvs))[j]? = some (l, .lk od ws kvs) := List.getElem?_set_self hl'
  obtain ⟨g1, g2⟩ := s2.lkd hj2
  have cd2 : CdOk Fx0.K B2 (.dk kvs) (.dK ws) := g2
  have s3 := s2.put hj2 cd2
  have t3 := Tr.put s2 hj2 cd2
  rw [set_back hj'] at s3 t3
  exact ⟨g1, k _ _ ⟨B2, st2, s3, t2.trans t3, lo2⟩⟩
/-- a return of a new list -/
theorem wp_retNew {Fx0 : Fx} {D : Ends} {tz : TS} {cd : CD} {R : SD → M → Prop} {mo : M} (h : EvN Fx0.K te ds m cd m1) (hf : Fin Fx0 D R) (hR : ∀ p, R (.rf p) (mo ++ [(p, cd)])) (hs : mo.Sublist m1) : Wp Fx0 (tSeq (tRet te) tz) D ds m := fun σ H ⟨B, st, s, t0, lo⟩ =>
  h B H σ s st _ fun p B2 H2 t2 s2 => by
    have sub : (mo ++ [(p, cd)]).Sublist (m1 ++ [(p, cd)]) := hs.append (List.Sublist.refl _)
    exact hf _ B2 H2 (.rf p) _ (hR p) ((t0.trans t2).sub fun a z => (sub.map _).subset z) (s2.sub sub) rfl
end
end FC
set_option maxHeartbeats 400000
/-! FL: lists of instances, new instances as receivers, d == {}, cells looked at by the law's own look. -/
namespace FC
open PySem PySem.Spec PyProof.Rows L2 Evl
section
variable {K : PySem.W.Frag} {B H : Hp} {ds : List SD} {m m1 m2 m' mc mc' : M} {α β S A A2 : Type} {f : α → PyData} {te ta tb to ti : TE} {t : TA} {rs : List SD} {c : SD} {F G : Pf} {E : XK} {l : Addr} {d e : PyData}
/-- d == {} -/
def rEqE : R2 := fun x y H Q => ∃ a b ks, x = .ref a ∧ y = .ref b ∧ H a = some (.dK ks) ∧ H b = some (.dK []) ∧ Q (.bl ks.isEmpty) H
theorem op_eqE {X : Cx} (hu : X.A.units < cLine) : OpR X (compareOp .Eq) rEqE := by
  intro pins s σ H x y v u Q I rx ry h
  obtain ⟨a, b, ks, rfl, rfl, ea, eb, q⟩ := h
  cases ks with
  | nil => exact op_eq_dictA hu pins s σ H _ _ v u Q I rx ry ⟨a, b, [], [], rfl, rfl, ea, eb, rfl, (fun _ h => nomatch h), q⟩
  | cons k ks =>
    obtain rfl : v = Value.ref a := rx
    obtain rfl : u = Value.ref b := ry
    obtain ⟨_, ya, va, ra, da⟩ := (show ObjOk X.prog X.w H s.heap a (.dK (k :: ks)) from I.hok a _ ea)
    obtain ⟨_, yb, vb, rb, db⟩ := (show ObjOk X.prog X.w H s.heap b (.dK []) from I.hok b _ eb)
    have h1 : va.length = ks.length + 1 := ra.length.symm
    have h2 : vb.length = 0 := rb.length.symm
    refine PySem.W.keq_eq (knd := mixKind X.prog X.w) (r := true) ya yb da db hu (fun e => by omega) (fin_bl I q ?_)
    have : (va.length == vb.length) = false := by
      rw [h1, h2]
      rfl
    rw [this]
    rfl
theorem ev_eqE (j : Nat) {kvs : List (Str × α)} (ha : Ev K ta ds m (.rf l) m1) (hb : tb = tDNewK) (hj : m1[j]? = some (l, .dk (eK kS f kvs))) : Ev K (tOp rEqE ta tb) ds m (.da (dB kvs.isEmpty)) m1 := fun B H σ s st Q q => by
  subst hb
  exact ha B H σ s st _ fun x B1 H1 t1 s1 d1 => by
    have e : x = .ref l := d1
    subst e
    intro p hp
    obtain ⟨ws, h1, h2⟩ := s1.dk' hj
    refine ⟨l, p, ws, rfl, rfl, by rw [upd_ne (ne_of_none h1 hp)]; exact h1, upd_same, ?_⟩
    have e2 : ws.isEmpty = kvs.isEmpty := by
      have hl := kv_len' h2
      unfold eK at hl
      rw [List.length_map] at hl
      cases ws <;> cases kvs <;> first | rfl | (simp at hl)
    rw [e2]
    exact q _ B1 _ (t1.trans (Tr.ext s1 (Ex.new hp))) (s1.grow (Ex.new hp)) (.bl _)
theorem rc_minC [DecidableEq α] [EncO f] {xs : List α} {x : α} (hd : Enc.dep f ≤ 60) (j : Nat) (hj : m[j]? = some (l, .ls (xs.map f))) (h : minL (EncO.lt f) xs = some x) : Rc K (rMinP K) [.rf l] m (.da (f x)) m := Rc.of fun B H vs s dx Q q => by
  obtain ⟨v, rfl, d1⟩ := sda1 dx
  obtain ⟨ws, hp, ha⟩ := s.ls hj
  have e : v = .ref l := d1
  subst e
  cases xs with
  | nil => cases h
  | cons y ys =>
    refine ⟨l, ws, f y, ys.map f, rfl, SqL.of hp, (dpa_mono s.ext ha).dp, alike_enc (y :: ys), depthAll_le (y :: ys) hd, fun i v h1 h2 => q v ?_⟩
    rw [minD_enc] at h2
    rw [← Option.some.inj h]
    exact dqa_ix ha h1 h2
/-- the law's own look at a cell: read as data by the call alone -/
theorem ev_sameL {n : Nat} {r : Bool} {dl : List PyData} (j : Nat) (h : EvA K t ds m [.rf l, .da e] m1) (hj : m1[j]? = some (l, .ls dl)) (hs : samG n (.list dl) e = some r) : Ev K (tCall (spOf K (pfSame n)) [] E t) ds m (.da (dB r)) m1 := by
  obtain ⟨rfl, h2, rfl⟩ := samG_some hs
  cases n with
  | zero => exact absurd h2.2 (Nat.lt_irrefl _)
  | succ n =>
    intro B H σ s st Q q
    refine h B H σ s st _ fun vs B1 H1 t1 s1 d1 => ?_
    obtain ⟨v, u, rfl, d2, d3⟩ := sda2 d1
    have ev : v = .ref l := d2
    subst ev
    obtain ⟨ws, h3, h4⟩ := s1.ls hj
    have hB : B1 l = none := s1.out (l, .ls dl) (List.mem_of_getElem? hj)
    have ee := Ex.new (o := .lst ws) hB
    have s2 : SOk K (upd B1 l (.lst ws)) [] H1 := (s1.frz hj h3).sub (List.nil_sublist _)
    rw [List.append_nil]
    refine ⟨upd B1 l (.lst ws), [.da (.list dl), .da (.list dl)], [], _, ⟨.list dl, h2.1, rfl, rfl, rfl⟩, s2, ⟨Dq.lst upd_same (dpa_mono ee h4), dp_mono ee d3, True.intro⟩, fun v B2 H2 r m2 hr t2 s3 d4 => ?_⟩
    obtain ⟨rfl, rfl⟩ := hr
    have kp : ∀ a o, H1 a = some o → H2 a = some o := fun a o => t2.keep a o (fun z => nomatch z)
    refine q v B1 H2 (t1.trans ⟨Ex.refl _, fun _ _ _ z => z, t2.tp, fun a o _ z => kp a o z, fun _ z => .inl z, t2.grow⟩) ⟨fun a o z => kp a o (s1.ext a o z), s1.nd, s1.out, fun p hp => ?_⟩ ?_
    · obtain ⟨o, g1, g2⟩ := s1.cel p hp
      exact ⟨o, kp _ _ g1, g2⟩
    · have d' : Dq B2 v (.bool true) := d4
      cases d'
      exact .bl true
/-- a slice as a new list -/
theorem ens_L {xs : List α} {tl th : TO} {lo hi : Option Int} (ha : Ev K ta ds m (.da (dL f xs)) m1) (hl : EvO K tl ds m1 lo m2) (hh : EvO K th ds m2 hi m') : EvN K (tSl (rSlL K) ta tl th) ds m (.ls ((cutI xs lo hi).map f)) m' := fun B H σ s st Q q =>
  ha B H σ s st _ fun x B1 H1 t1 s1 d1 => hl B1 H1 σ s1 (st_mono t1.ex st) _ fun B2 H2 t2 s2 => hh B2 H2 σ s2 (st_mono (t1.ex.trans t2.ex) st) _ fun B3 H3 t3 s3 => by
    obtain ⟨p, vs, rfl, hp, hd⟩ := lst_of (sd_mono (t2.ex.trans t3.ex) d1)
    refine ⟨p, vs, rfl, SqL.of (s3.ext _ _ hp), fun w hw => q w _ _ (((t1.trans t2).trans t3).trans (Tr.cell s3 hw)) (s3.cell hw ?_)⟩
    show DqAll B3 (cutI vs lo hi) ((cutI xs lo hi).map f)
    rw [← cutI_map]
    exact dqa_cut hd lo hi
/-- a list of two new things -/
theorem eg_lst2 {r1 : A → SD} {r2 : A2 → SD} {Good1 : A → M → Prop} {Good2 : A2 → M → Prop} (h1 : EvG K ta ds m r1 Good1 m1) (h2 : ∀ a mN, Good1 a mN → EvG K tb ds (m1 ++ mN) r2 Good2 (m1 ++ mN)) :
    EvG K (tLst (tCons ta (tCons tb tNil))) ds m (fun a : Addr × A × A2 => .rf a.1) (fun a mZ => ∃ mN mM, Good1 a.2.1 mN ∧ Good2 a.2.2 mM ∧ mZ = mN ++ mM ++ [(a.1, .lr [r1 a.2.1, r2 a.2.2])]) m1 := fun B H σ s st Q q =>
  h1 B H σ s st _ fun v a mN B2 H2 hg t2 s2 d2 => h2 a mN hg B2 H2 σ s2 (st_mono t2.ex st) _ fun u b mM B3 H3 hg2 t3 s3 d3 => by
    refine ⟨Nat.le_of_lt (small1000 (by show 2 ≤ 1000; omega)), fun p hp => ?_⟩
    have hc : CdOk K B3 (.lr [r1 a, r2 b]) (.lst [v, u]) := ⟨sd_mono t3.ex d2, d3, True.intro⟩
    have s4 := s3.cell hp hc
    have t4 := Tr.cell (c := .lr [r1 a, r2 b]) (o := .lst [v, u]) s3 hp
    have e : m1 ++ mN ++ mM ++ [(p, CD.lr [r1 a, r2 b])] = m1 ++ (mN ++ mM ++ [(p, .lr [r1 a, r2 b])]) := by rw [List.append_assoc, List.append_assoc, List.append_assoc]
    rw [e] at s4 t4
    exact q (.ref p) (p, a, b) _ B3 _ ⟨mN, mM, hg, hg2, rfl⟩ ((t2.trans t3).trans t4) s4 rfl
/-- a tuple of two new things -/
theorem eg_tup2 {p1 : A → Addr} {p2 : A2 → Addr} {Good1 : A → M → Prop} {Good2 : A2 → M → Prop} (h1 : EvG K ta ds m (fun a => .rf (p1 a)) Good1 m1) (h2 : ∀ a mN, Good1 a mN → EvG K tb ds (m1 ++ mN) (fun a => .rf (p2 a)) Good2 (m1 ++ mN)) :
    EvG K (tTup (tCons ta (tCons tb tNil))) ds m (fun a : A × A2 => .tp [.inr (p1 a.1), .inr (p2 a.2)]) (fun a mZ => ∃ mN mM, Good1 a.1 mN ∧ Good2 a.2 mM ∧ mZ = mN ++ mM) m1 := fun B H σ s st Q q =>
  h1 B H σ s st _ fun v a mN B2 H2 hg t2 s2 d2 => h2 a mN hg B2 H2 σ s2 (st_mono t2.ex st) _ fun u b mM B3 H3 hg2 t3 s3 d3 => by
    refine ⟨Nat.le_of_lt (small1000 (by show 2 ≤ 1000; omega)), fun p hp => ?_⟩
    have e1 : v = .ref (p1 a) := d2
    have e2 : u = .ref (p2 b) := d3
    subst e1 e2
    have s4 := s3.data (o := .tup [.ref (p1 a), .ref (p2 b)]) hp
    have t4 := Tr.data (o := .tup [.ref (p1 a), .ref (p2 b)]) s3 hp
    rw [List.append_assoc] at s4 t4
    have t5 := t2.trans t3
    rw [List.append_assoc] at t5
    exact q (.ref p) (a, b) _ _ _ ⟨mN, mM, hg, hg2, rfl⟩ (t5.trans t4) s4 ⟨p, _, rfl, upd_same, rfl, rfl, True.intro⟩
theorem sda_atI {es : List SD} {vs : List V} {i : Int} {r : SD} (h : SdAll K B es vs) (e : getI es i = some r) : ∃ v, atI vs i = some v ∧ SdOk K B r v := by
  have hl := sda_len h
  unfold getI atI at e
  unfold atI
  rw [hl]
  cases q : ixN es.length i with
  | none => rw [q] at e; cases e
  | some k =>
    rw [q] at e
    exact sda_at h e
theorem rr_ixR {es : List SD} {i : Int} {r : SD} (j : Nat) (hj : m[j]? = some (l, .lr es)) (h : getI es i = some r) : Rr K (rIxL K) (.rf l) (.da (dI i)) m r m := Rr.of fun B H u v s dx dy Q q => by
  obtain ⟨o, h1, c1⟩ := s.at hj
  cases o with
  | lst vs =>
    obtain ⟨w, h3, h4⟩ := sda_atI c1 h
    exact ⟨l, vs, i, w, dx, int_of dy, SqL.of h1, h3, q _ h4⟩
  | _ => exact c1.elim
/-- e.m(..), e a new instance that is needed no more -/
theorem ev_methG {pa : A → Addr} {Good : A → M → Prop} {mt : Str} {C : Addr} {names : List Str} (h0 : EvG K ta ds m (fun a => .rf (pa a)) Good m1) (hob : ∀ a mN, Good a mN → ∃ dx sds rest, mN = (pa a, obj C dx names sds) :: rest ∧ sds.length ≤ names.length) (hm : mt ∉ names)
    (h : ∀ m, EvA K t ds m rs m) (hF : ∀ a mN, Good a mN → ∃ R, G (.rf (pa a) :: rs) mN R ∧ ∀ r m2, R r m2 → r = c ∧ m2 = mN) : Ev K (tMeth C mt (spOf K G) [] E ta t) ds m c m1 := fun B H σ s st Q q =>
  h0 B H σ s st _ fun v a mN B1 H1 hg t1 s1 d1 => by
    have ev : v = .ref (pa a) := d1
    subst ev
    obtain ⟨dx, sds, rest, e, hl⟩ := hob a mN hg
    have hj : (m1 ++ mN)[m1.length]? = some (pa a, obj C dx names sds) := by
      rw [List.getElem?_append_right (Nat.le_refl _), Nat.sub_self, e]
      rfl
    obtain ⟨vs, h1, _, _⟩ := s1.ob hj hl
    refine ⟨pa a, dx, _, rfl, h1, lookup_no (zip_keys hm), h _ B1 H1 σ s1 (st_mono t1.ex st) _ fun us B2 H2 t2 s2 d2 => ?_⟩
    rw [List.append_nil]
    have pm : (mN ++ m1).Perm (m1 ++ mN) := List.perm_append_comm
    have sub : m1.Sublist (m1 ++ mN) := List.sublist_append_left _ _
    exact any_call (vs := .ref (pa a) :: us) s2 pm pm (hF a mN hg) (rs := .rf (pa a) :: rs) ⟨rfl, d2⟩ Q fun v B3 H3 t3 s3 d3 => q v B3 H3 (((t1.trans t2).trans t3).sub fun a z => (sub.map _).subset z) (s3.sub sub) d3
end
theorem split2 {α : Type} {b c : Bool} {x y : Option α} {r : α} (h : cond b x (cond c y none) = some r) : (b = true ∧ x = some r) ∨ (c = true ∧ y = some r) := by
  cases b with
  | true => exact .inl ⟨rfl, h⟩
  | false =>
    cases c with
    | true => exact .inr ⟨rfl, h⟩
    | false => cases h
end FC
set_option maxHeartbeats 400000
/-! FH: lists of lists whose rows change: made, read, stored, walked; slices with a step; cells in another order. -/
namespace FC
open PySem PySem.Spec PyProof.Rows L2 Evl
/-! ### orders -/
theorem permB {α : Type} {l1 l2 : List α} (h : ∀ f : α → Nat, (l1.map f).sum = (l2.map f).sum) : l1.Perm l2 := by
  classical
  rw [List.perm_iff_count]
  intro a
  have h1 := h (fun x => if x = a then 1 else 0)
  have key : ∀ l : List α, (l.map fun x => if x = a then 1 else 0).sum = l.count a := by
    intro l
    induction l with
    | nil => rfl
    | cons x l ih =>
      rw [List.map_cons, List.sum_cons, List.count_cons, ih]
      by_cases e : x = a
      · simp [e]
        omega
      · simp [e]
  rw [key, key] at h1
  exact h1
section
variable {K : PySem.W.Frag} {B H : Hp} {ds : List SD} {m m1 m2 m3 pre mc mc' : M} {α β S : Type} {f : β → PyData} {te ta tb to ti tj tv tx : TE} {t : TA} {r : SD} {wi : TI} {g : TG} {G : M → Prop} {items : List α} {up : α → List SD → List SD} {js : List Nat} {l : Addr} {ps : List Addr} {dss dss' : List (List β)} {F : Fx} {D : Ends} {tz ts : TS} {rs : List SD} {c : SD}
theorem ev_perm (h : Ev K te ds m1 r m2) (p : m1.Perm m) (p2 : m3.Perm m2) : Ev K te ds m r m3 := fun B H σ s st Q q => h B H σ (s.perm p) st Q fun v B2 H2 t2 s2 d2 => q v B2 H2 (t2.perm (fun a => (p.map Prod.fst).mem_iff) (fun a => (p2.map Prod.fst).mem_iff.symm)) (s2.perm p2) d2
theorem wp_perm (p : m1.Perm m) (k : Wp F ts D ds m1) : Wp F ts D ds m := fun σ H ⟨B, st, s, t, lo⟩ => k σ H ⟨B, st, s.perm p, t.perm (fun _ => Iff.rfl) (fun a => (p.map Prod.fst).mem_iff.symm), lo⟩
theorem wp_dropN (hs : m1.Sublist m) (k : Wp F ts D ds m1) : Wp F ts D ds m := fun σ H ⟨B, st, s, t, lo⟩ => k σ H ⟨B, st, s.sub hs, t.sub (fun a z => (hs.map _).subset z), lo⟩
/-! ### nests -/
theorem nest_row (s : SOk K B (pre ++ nest f l ps dss) H) {p : Addr} {xs : List β} (h : (p, xs) ∈ ps.zip dss) : ∃ j : Nat, (pre ++ nest f l ps dss)[j]? = some (p, CD.ls (xs.map f)) := by
  have hlen := nest_len s
  obtain ⟨i, hi⟩ := List.mem_iff_getElem?.mp h
  obtain ⟨h1, h2⟩ := List.getElem?_zip_eq_some.mp hi
  exact ⟨_, nest_at hlen h1 h2⟩
theorem nest_top (s : SOk K B (pre ++ nest f l ps dss) H) : H l = some (.lst (ps.map V.ref)) ∧ ps.length = dss.length := by
  have hlen := nest_len s
  have hj0 : (pre ++ nest f l ps dss)[pre.length]? = some (l, .lr (ps.map SD.rf)) := by
    rw [List.getElem?_append_right (Nat.le_refl _), Nat.sub_self, nest_eq hlen]
    rfl
  obtain ⟨vs, h1, h2⟩ := s.lr hj0
  rw [sda_refs h2] at h1
  exact ⟨h1, hlen⟩
def nget (dss : List (List β)) (i j : Int) : Option β := (getI dss i).bind fun r => getI r j
def nset (dss : List (List β)) (i j : Int) (x : β) : Option (List (List β)) := (ixN dss.length i).bind fun k => (dss[k]?).bind fun r => (setI r j x).bind fun r' => some (dss.set k r')
theorem getI_ix {γ : Type} {xs : List γ} {i : Int} {x : γ} (h : getI xs i = some x) : ∃ k, ixN xs.length i = some k ∧ xs[k]? = some x := by
  unfold getI atI at h
  cases q : ixN xs.length i with
  | none => rw [q] at h; cases h
  | some k => rw [q] at h; exact ⟨k, rfl, h⟩
/-- x[i], a row of a nest: its address, its place -/
theorem row_at {i : Int} {k : Nat} {xs : List β} (s : SOk K B (pre ++ nest f l ps dss) H) (e1 : ixN dss.length i = some k) (e2 : dss[k]? = some xs) : ∃ p, ps[k]? = some p ∧ atI (ps.map V.ref) i = some (.ref p) ∧ (pre ++ nest f l ps dss)[pre.length + (k + 1)]? = some (p, .ls (xs.map f)) := by
  have hlen := nest_len s
  have hk : k < ps.length := by rw [hlen]; exact (List.getElem?_eq_some_iff.mp e2).1
  have hp := List.getElem?_eq_getElem hk
  refine ⟨ps[k], hp, ?_, nest_at hlen hp e2⟩
  unfold atI
  rw [List.length_map, hlen, e1]
  show (ps.map V.ref)[k]? = _
  rw [List.getElem?_map, hp]
  rfl
theorem ev_nget {i j : Int} {x : β} (ho : Ev K to ds m (.rf l) m1) (hi : Ev K ti ds m1 (.da (dI i)) (pre ++ nest f l ps dss)) (hj : Ev K tj ds (pre ++ nest f l ps dss) (.da (dI j)) (pre ++ nest f l ps dss)) (h : nget dss i j = some x) : Ev K (tOp (rIxL K) (tOp (rIxL K) to ti) tj) ds m (.da (f x)) (pre ++ nest f l ps dss) := fun B H σ s st Q q =>
  ho B H σ s st _ fun u B1 H1 t1 s1 d1 => hi B1 H1 σ s1 (st_mono t1.ex st) _ fun y B2 H2 t2 s2 d2 => by
    have eu : u = .ref l := d1
    subst eu
    obtain ⟨xs, e1, e2⟩ := bindS h
    obtain ⟨k, e3, e4⟩ := getI_ix e1
    obtain ⟨p, hp, hat, hjj⟩ := row_at s2 e3 e4
    obtain ⟨h1, _⟩ := nest_top s2
    refine ⟨l, ps.map V.ref, i, .ref p, rfl, int_of d2, SqL.of h1, hat, ?_⟩
    refine hj B2 H2 σ s2 (st_mono (t1.ex.trans t2.ex) st) _ fun z B3 H3 t3 s3 d3 => ?_
    obtain ⟨p', hp', hat', hjj'⟩ := row_at s3 e3 e4
    rw [hp] at hp'
    cases hp'
    exact rr_ixC (f := f) _ hjj' e2 B3 H3 _ _ s3 rfl d3 Q fun v B4 H4 t4 s4 d4 => q v B4 H4 (((t1.trans t2).trans t3).trans t4) s4 d4
theorem wp_nset {i j : Int} {x : β} (hv : Ev F.K tv ds m (.da (f x)) m1) (ho : Ev F.K to ds m1 (.rf l) m2) (hi : Ev F.K ti ds m2 (.da (dI i)) (pre ++ nest f l ps dss)) (hj : Ev F.K tj ds (pre ++ nest f l ps dss) (.da (dI j)) (pre ++ nest f l ps dss)) (h : nset dss i j x = some dss')
    (k : Wp F tz D ds (pre ++ nest f l ps dss')) : Wp F (tSeq (tAsg tv (gSub (tOp (rIxL F.K) to ti) tj rSetL)) tz) D ds m := fun σ H ⟨B, st, s, t, lo⟩ =>
  hv B H σ s st _ fun v B1 H1 t1 s1 d1 => ho B1 H1 σ s1 (st_mono t1.ex st) _ fun o B2 H2 t2 s2 d2 => hi B2 H2 σ s2 (st_mono (t1.ex.trans t2.ex) st) _ fun y B3 H3 t3 s3 d3 => by
    have eo : o = .ref l := d2
    subst eo
    obtain ⟨kk, e3, h⟩ := bindS h
    obtain ⟨xs, e4, h⟩ := bindS h
    obtain ⟨ys, e5, h⟩ := bindS h
    have e6 := Option.some.inj h
    subst e6
    obtain ⟨p, hp, hat, _⟩ := row_at s3 e3 e4
    obtain ⟨h1, _⟩ := nest_top s3
    refine ⟨l, ps.map V.ref, i, .ref p, rfl, int_of d3, SqL.of h1, hat, ?_⟩
    refine hj B3 H3 σ s3 (st_mono ((t1.ex.trans t2.ex).trans t3.ex) st) _ fun z B4 H4 t4 s4 d4 => ?_
    obtain ⟨p', hp', _, hjj⟩ := row_at s4 e3 e4
    rw [hp] at hp'
    cases hp'
    obtain ⟨vs, g1, g2⟩ := s4.ls hjj
    have hl := dpa_len g2
    rw [List.length_map] at hl
    unfold setI at e5
    obtain ⟨jx, e7, e8⟩ := Option.map_eq_some_iff.mp e5
    have hcd : CdOk F.K B4 (.ls (ys.map f)) (.lst (vs.set jx v)) := by
      subst e8
      rw [List.map_set]
      exact dqa_set jx g2 (dp_mono ((t2.ex.trans t3.ex).trans t4.ex) d1)
    refine ⟨p, vs, j, jx, rfl, int_of d4, g1, by rw [hl]; exact e7, ?_⟩
    have s5 := s4.put hjj hcd
    have t5 := Tr.put s4 hjj hcd
    rw [nest_set (nest_len s4) hp] at s5 t5
    exact k σ _ ⟨B4, st_mono (((t1.ex.trans t2.ex).trans t3.ex).trans t4.ex) st, s5, ((((t.trans t1).trans t2).trans t3).trans t4).trans t5, lo.trans (((t1.ex.trans t2.ex).trans t3.ex).trans t4.ex)⟩
/-- x[i][j] += e -/
theorem pget_list {X : Cx} : PGet X (rIxL X.K) := by
  intro pins s σ H x y v u Q I rx ry h
  obtain ⟨p, xs, i, z, rfl, rfl, hq, he, q⟩ := h
  cases rx
  obtain ⟨t, rfl⟩ := ry
  obtain ⟨its, r, pl, hz⟩ := I.list hq
  obtain ⟨j, g1, g2, g3, g4, g5⟩ := atI_get he
  obtain ⟨w, ew, rw'⟩ := r.get g2
  have hl := r.length
  have hn := line63
  by_cases h0 : 0 ≤ i
  · have hj : i.toNat = j := by
      rw [seqIndex_of h0 g5] at g1
      exact Option.some.inj g1
    exact wpAny_getItem_list pl.isList h0 (by omega) (by rw [hj]; simpa using ew) ⟨z, H, I, rw', q⟩
  · have hj : (i + (its.toArray.size : Int)).toNat = j := by
      rw [seqIndex_neg (by omega) g4] at g1
      rw [List.size_toArray, ← hl]
      exact Option.some.inj g1
    exact wpAny_getItem_list_neg pl.isList (by omega) (by rw [List.size_toArray] <;> omega) (by omega) (by rw [hj]; simpa using ew) ⟨z, H, I, rw', q⟩
theorem wp_naug {i j a b : Int} {dn dn' : List (List Int)} {fi : Int → Int → Int} (ho : Ev F.K to ds m (.rf l) m1) (hi : Ev F.K ti ds m1 (.da (dI i)) (pre ++ nest dI l ps dn)) (hj : Ev F.K tj ds (pre ++ nest dI l ps dn) (.da (dI j)) (pre ++ nest dI l ps dn)) (hg : nget dn i j = some a)
    (hv : Ev F.K tv ds (pre ++ nest dI l ps dn) (.da (dI b)) (pre ++ nest dI l ps dn)) (h : nset dn i j (fi a b) = some dn') (k : Wp F tz D ds (pre ++ nest dI l ps dn')) : Wp F (tSeq (tAugS (tOp (rIxL F.K) to ti) tj tv (rIxL F.K) (ipI fi) rSetL) tz) D ds m := fun σ H ⟨B, st, s, t, lo⟩ =>
  ho B H σ s st _ fun o B1 H1 t1 s1 d1 => hi B1 H1 σ s1 (st_mono t1.ex st) _ fun y B2 H2 t2 s2 d2 => by
    have eo : o = .ref l := d1
    subst eo
    obtain ⟨kk, e3, h⟩ := bindS h
    obtain ⟨xs, e4, h⟩ := bindS h
    obtain ⟨ys, e5, h⟩ := bindS h
    have e6 := Option.some.inj h
    subst e6
    obtain ⟨xs', f1, f2⟩ := bindS hg
    obtain ⟨kk', f3, f4⟩ := getI_ix f1
    rw [e3] at f3
    cases f3
    rw [e4] at f4
    cases f4
    obtain ⟨p, hp, hat, _⟩ := row_at s2 e3 e4
    obtain ⟨h1, _⟩ := nest_top s2
    refine ⟨l, ps.map V.ref, i, .ref p, rfl, int_of d2, SqL.of h1, hat, ?_⟩
    refine hj B2 H2 σ s2 (st_mono (t1.ex.trans t2.ex) st) _ fun z B3 H3 t3 s3 d3 => ?_
    obtain ⟨p', hp', _, hjj⟩ := row_at s3 e3 e4
    rw [hp] at hp'
    cases hp'
    refine rr_ixC (f := dI) _ hjj f2 B3 H3 _ _ s3 rfl d3 _ fun old B4 H4 t4 s4 d4 => ?_
    refine hv B4 H4 σ s4 (st_mono (((t1.ex.trans t2.ex).trans t3.ex).trans t4.ex) st) _ fun w B5 H5 t5 s5 d5 => ?_
    refine ⟨a, b, int_of (sd_mono t5.ex d4), int_of d5, ?_⟩
    obtain ⟨p', hp', _, hjj5⟩ := row_at s5 e3 e4
    rw [hp] at hp'
    cases hp'
    obtain ⟨vs, g1, g2⟩ := s5.ls hjj5
    have hl := dpa_len g2
    rw [List.length_map] at hl
    unfold setI at e5
    obtain ⟨jx, e7, e8⟩ := Option.map_eq_some_iff.mp e5
    have hcd : CdOk F.K B5 (.ls (ys.map dI)) (.lst (vs.set jx (.int (fi a b)))) := by
      subst e8
      rw [List.map_set]
      exact dqa_set jx g2 (.int _)
    refine ⟨p, vs, j, jx, rfl, int_of d3, g1, by rw [hl]; exact e7, ?_⟩
    have s6 := s5.put hjj5 hcd
    have t6 := Tr.put s5 hjj5 hcd
    rw [nest_set (nest_len s5) hp] at s6 t6
    exact k σ _ ⟨B5, st_mono ((((t1.ex.trans t2.ex).trans t3.ex).trans t4.ex).trans t5.ex) st, s6, (((((t.trans t1).trans t2).trans t3).trans t4).trans t5).trans t6, lo.trans ((((t1.ex.trans t2.ex).trans t3.ex).trans t4.ex).trans t5.ex)⟩
/-- len(x), len(x[i]) -/
theorem rc_lenN : Rc K (rLenA K) [.rf l] (pre ++ nest f l ps dss) (.da (dI dss.length)) (pre ++ nest f l ps dss) := Rc.of fun B H vs s dx Q q => by
  obtain ⟨v, rfl, d1⟩ := sda1 dx
  have e : v = .ref l := d1
  obtain ⟨h1, h2⟩ := nest_top s
  refine ⟨l, ps.map V.ref, by rw [e], .inl (SqL.of h1), ?_⟩
  rw [List.length_map, h2]
  exact q _ (.int _)
theorem ev_lenRow {i : Int} {xs : List β} (ho : Ev K to ds m (.rf l) m1) (hi : Ev K ti ds m1 (.da (dI i)) (pre ++ nest f l ps dss)) (h : getI dss i = some xs) : Ev K (tCB (rLenA K) (tCons (tOp (rIxL K) to ti) tNil)) ds m (.da (dI xs.length)) (pre ++ nest f l ps dss) := fun B H σ s st Q q =>
  ho B H σ s st _ fun u B1 H1 t1 s1 d1 => hi B1 H1 σ s1 (st_mono t1.ex st) _ fun y B2 H2 t2 s2 d2 => by
    have eu : u = .ref l := d1
    subst eu
    obtain ⟨k, e3, e4⟩ := getI_ix h
    obtain ⟨p, hp, hat, hjj⟩ := row_at s2 e3 e4
    obtain ⟨h1, _⟩ := nest_top s2
    refine ⟨l, ps.map V.ref, i, .ref p, rfl, int_of d2, SqL.of h1, hat, ?_⟩
    obtain ⟨ws, g1, g2⟩ := s2.ls hjj
    refine ⟨p, ws, rfl, .inl (SqL.of g1), ?_⟩
    rw [dpa_len g2, List.length_map]
    exact q _ B2 H2 (t1.trans t2) s2 (.int _)
/-- a row by a name: its length, its items -/
theorem ev_lenR {p : Addr} {xs : List β} {j : Nat} (hj : ds[j]? = some (.rf p)) (h : (p, xs) ∈ ps.zip dss) : Ev K (tCB (rLenA K) (tCons (tVar j) tNil)) ds (pre ++ nest f l ps dss) (.da (dI xs.length)) (pre ++ nest f l ps dss) := fun B H σ s st Q q => by
  obtain ⟨k, hk⟩ := nest_row s h
  exact ev_cb (ea_cons (ev_rf hj) ea_nil) (rc_lenC (f := f) k hk) B H σ s st Q q
theorem ev_getR {p : Addr} {xs : List β} {j : Nat} {i : Int} {x : β} (hj : ds[j]? = some (.rf p)) (h : (p, xs) ∈ ps.zip dss) (hi : Ev K ti ds (pre ++ nest f l ps dss) (.da (dI i)) (pre ++ nest f l ps dss)) (hx : getI xs i = some x) : Ev K (tOp (rIxL K) (tVar j) ti) ds (pre ++ nest f l ps dss) (.da (f x)) (pre ++ nest f l ps dss) := fun B H σ s st Q q => by
  obtain ⟨k, hk⟩ := nest_row s h
  exact ev_op (ev_rf hj) hi (rr_ixC (f := f) k hk hx) B H σ s st Q q
/-- what is walked: a nest -/
theorem src_N {j : Nat} (h : Ev K tx ds m (.rf l) (pre ++ nest f l ps dss)) : Src K (iList K tx) (gName j) ds m (pre ++ nest f l ps dss) (fun m' => ∃ pre c, m' = (pre ++ nest f l ps dss) ++ c) (ps.zip dss) (fun x ds => ds.set j (.rf x.1)) [j] := fun B H σ s st R q => h B H σ s st _ fun v B1 H1 t1 s1 d1 => by
  have e : v = .ref l := d1
  subst e
  obtain ⟨h1, h2⟩ := nest_top s1
  have top : ∀ {H B' m'}, (∃ pre c, m' = (pre ++ nest f l ps dss) ++ c) → SOk K B' m' H → SqL K H l (ps.map V.ref) := fun g s => by
    obtain ⟨pre, c, rfl⟩ := g
    exact SqL.of (nest_top (s.sub (List.sublist_append_left _ _))).1
  refine ⟨l, rfl, ⟨_, SqL.of h1⟩, q _ B1 H1 t1 s1 ⟨fun i H B' m' hi e g s => ?_, fun H B' m' e g s => ⟨_, top g s, by rw [List.length_map, List.length_zip, h2, Nat.min_self]; exact Nat.le_refl _⟩, fun i x v H H' B' m' ds σ hx e g s st hy Q q => ?_⟩⟩
  · rw [List.length_zip, h2, Nat.min_self] at hi
    have hi' : i < (ps.map V.ref).length := by rw [List.length_map, h2]; exact hi
    exact ⟨_, _, top g s, List.getElem?_eq_getElem hi'⟩
  · obtain ⟨rfl, y2⟩ := hy
    have h5 := y2 _ (top g s)
    obtain ⟨g1, _⟩ := List.getElem?_zip_eq_some.mp hx
    rw [List.getElem?_map, g1] at h5
    have e5 := Option.some.inj h5
    subst e5
    exact q B' _ (Tr.refl _ _ _) s (st_set j st (sl_of (s := .rf x.1) rfl)) sets1
theorem src_EN {j k : Nat} (h : EvA K t ds m [.rf l] (pre ++ nest f l ps dss)) : Src K (iEnum K t) (gTup K 2 (gCons (gName j) (gCons (gName k) gNil))) ds m (pre ++ nest f l ps dss) (fun m' => ∃ pre c, m' = (pre ++ nest f l ps dss) ++ c) (enumI (ps.zip dss)) (fun p ds => (ds.set j (.da (dI p.1))).set k (.rf p.2.1)) ([j] ++ [k]) := fun B H σ s st R q => h B H σ s st _ fun vs B1 H1 t1 s1 d1 => by
  obtain ⟨v, rfl, d⟩ := sda1 d1
  have e : v = .ref l := d
  subst e
  obtain ⟨h1, h2⟩ := nest_top s1
  have top : ∀ {H B' m'}, (∃ pre c, m' = (pre ++ nest f l ps dss) ++ c) → SOk K B' m' H → SqL K H l (ps.map V.ref) := fun g s => by
    obtain ⟨pre, c, rfl⟩ := g
    exact SqL.of (nest_top (s.sub (List.sublist_append_left _ _))).1
  refine ⟨l, ps.map V.ref, rfl, SqL.of h1, q _ B1 H1 t1 s1 ⟨fun i H B' m' hi e g s => ?_, fun H B' m' e g s => ⟨_, top g s, ?_⟩, fun i x v H H' B' m' ds σ hx e g s st hy Q q => ?_⟩⟩
  · unfold enumI at hi
    rw [List.length_map, List.length_zipIdx, List.length_zip, h2, Nat.min_self] at hi
    have hi' : i < (ps.map V.ref).length := by rw [List.length_map, h2]; exact hi
    exact ⟨_, _, top g s, List.getElem?_eq_getElem hi'⟩
  · unfold enumI
    rw [List.length_map, List.length_map, List.length_zipIdx, List.length_zip, h2, Nat.min_self]
    exact Nat.le_refl _
  · obtain ⟨T, w, rfl, hT, rfl, y2⟩ := hy
    unfold enumI at hx
    rw [List.getElem?_map, Option.map_eq_some_iff] at hx
    obtain ⟨pr, g1, rfl⟩ := hx
    rw [List.getElem?_zipIdx, Option.map_eq_some_iff] at g1
    obtain ⟨a, g3, rfl⟩ := g1
    obtain ⟨g4, _⟩ := List.getElem?_zip_eq_some.mp g3
    have h7 := y2 _ (top g s)
    rw [List.getElem?_map, g4] at h7
    have e7 := Option.some.inj h7
    subst e7
    have e0 : ((i : Nat) : Int) = ((0 + i : Nat) : Int) := by omega
    refine ⟨T, [_, .ref a.1], rfl, SqT.of upd_same, rfl, _, [.ref a.1], rfl, .ref a.1, [], rfl, rfl, ?_⟩
    refine q (upd B' T _) _ (Tr.data s hT) (s.data hT) ?_ (sets1.trans sets1)
    have ee := Ex.new (o := .tup [V.int (i : Nat), .ref a.1]) (fresh_b s hT)
    refine st_set k (st_set j (st_mono ee st) (sl_of (s := .da (dI ((0 + i : Nat) : Int))) ?_)) (sl_of (s := .rf a.1) rfl)
    rw [← e0]
    exact .int _
theorem zip_mapO {γ : Type} {step : List β → Option γ} {out : List γ} : ∀ {ps : List Addr} {dss : List (List β)}, ps.length = dss.length → mapO step dss = some out → mapO (fun p : Addr × List β => step p.2) (ps.zip dss) = some out
  | [], [], _, h => h
  | [], _ :: _, h, _ => by cases h
  | _ :: _, [], h, _ => by cases h
  | p :: ps, d :: dss, hl, h => by
    obtain ⟨y, h1, h⟩ := bindS h
    obtain ⟨ys, h2, h⟩ := bindS h
    show (step d).bind _ = _
    rw [h1]
    show (mapO _ (ps.zip dss)).bind _ = _
    rw [zip_mapO (Nat.succ.inj hl) h2]
    exact h
end
section
variable {K : PySem.W.Frag} {ds : List SD} {m m1 pre : M} {α β γ S R : Type} {f : β → PyData} {f2 : γ → PyData} {te tx : TE} {t : TA} {l : Addr} {ps : List Addr} {dss : List (List β)} {F : Fx} {D : Ends} {tz tb : TS} {es : List SD}
/-- a comprehension over a nest's rows -/
theorem lc_N {j : Nat} {vs : List Nat} {step : List β → Option γ} {out : List γ} (hx : Ev K tx ds m (.rf l) (pre ++ nest f l ps dss)) (hjs : j ∈ vs) (hn : lenG dss.length = some ()) (h : mapO step dss = some out)
    (body : ∀ p xs y, (p, xs) ∈ ps.zip dss → step xs = some y → Ev K te ((wipeD ds vs).set j (.rf p)) (pre ++ nest f l ps dss) (.da (f2 y)) (pre ++ nest f l ps dss)) :
    ∀ B H σ, SOk K B m H → StOk K B ds σ → ∀ Q : VK, (∀ p B2 H2, Tr B H (keys m) B2 H2 (keys ((pre ++ nest f l ps dss) ++ [(p, .ls (out.map f2))])) → SOk K B2 ((pre ++ nest f l ps dss) ++ [(p, .ls (out.map f2))]) H2 → H p = none → Q (.ref p) H2) → tLc (iList K tx) (gName j) tYes te vs σ H Q := fun B H σ s st Q q => by
  by_cases hl : ps.length = dss.length
  · exact lc_map (f2 := f2) (step := fun p : Addr × List β => step p.2) (src_N hx) (fun k hk => by rw [List.mem_singleton.mp hk]; exact hjs) (fun c => ⟨pre, c, rfl⟩) (by rw [List.length_zip, hl, Nat.min_self]; exact hn) (zip_mapO hl h) (fun p y hp hy => body p.1 p.2 y hp hy) B H σ s st Q q
  · -- the cells do not stand
    exact hx B H σ s st _ fun v B1 H1 t1 s1 d1 => absurd (nest_len s1) hl
theorem zip_forC {step : S → Int × List β → Option (Ctl S R)} {c : Ctl S R} {ps : List Addr} {dss : List (List β)} (hl : ps.length = dss.length) {s : S} (h : forC step s (enumI dss) = some c) : forC (fun s (p : Int × Addr × List β) => step s (p.1, p.2.2)) s (enumI (ps.zip dss)) = some c := by
  have key : ∀ (ps : List Addr) (dss : List (List β)) (k : Nat) (s : S), ps.length = dss.length → forC step s ((dss.zipIdx k).map fun p => ((p.2 : Int), p.1)) = some c → forC (fun s (p : Int × Addr × List β) => step s (p.1, p.2.2)) s (((ps.zip dss).zipIdx k).map fun p => ((p.2 : Int), p.1)) = some c := by
    intro ps
    induction ps with
    | nil =>
      intro dss k s hl h
      cases dss with
      | nil => exact h
      | cons _ _ => cases hl
    | cons p ps ih =>
      intro dss k s hl h
      cases dss with
      | nil => cases hl
      | cons d dss =>
        obtain ⟨c', h1, h2⟩ := bindS h
        show (step s ((k : Int), d)).bind _ = _
        rw [show step s ((k : Int), d) = some c' from h1]
        cases c' with
        | nx s' => exact ih dss (k + 1) s' (Nat.succ.inj hl) h2
        | bk s' => exact h2
        | rt r => exact h2
  exact key ps dss 0 s hl h
theorem zip_forF {step : S → Int × List β → Option S} {sN : S} {ps : List Addr} {dss : List (List β)} (hl : ps.length = dss.length) {s : S} (h : forF step s (enumI dss) = some sN) : forF (fun s (p : Int × Addr × List β) => step s (p.1, p.2.2)) s (enumI (ps.zip dss)) = some sN := by
  have key : ∀ (ps : List Addr) (dss : List (List β)) (k : Nat) (s : S), ps.length = dss.length → forF step s ((dss.zipIdx k).map fun p => ((p.2 : Int), p.1)) = some sN → forF (fun s (p : Int × Addr × List β) => step s (p.1, p.2.2)) s (((ps.zip dss).zipIdx k).map fun p => ((p.2 : Int), p.1)) = some sN := by
    intro ps
    induction ps with
    | nil =>
      intro dss k s hl h
      cases dss with
      | nil => exact h
      | cons _ _ => cases hl
    | cons p ps ih =>
      intro dss k s hl h
      cases dss with
      | nil => cases hl
      | cons d dss =>
        obtain ⟨s', h1, h2⟩ := bindS h
        show (step s ((k : Int), d)).bind _ = _
        rw [show step s ((k : Int), d) = some s' from h1]
        exact ih dss (k + 1) s' (Nat.succ.inj hl) h2
  exact key ps dss 0 s hl h
theorem mem_enumZ {i : Int} {p : Addr} {xs : List β} (h : (i, p, xs) ∈ enumI (ps.zip dss)) : (p, xs) ∈ ps.zip dss := by
  unfold enumI at h
  obtain ⟨q, hq, e⟩ := List.mem_map.mp h
  obtain ⟨q1, q2⟩ := q
  have e2 : q1 = (p, xs) := congrArg Prod.snd e
  rw [← e2]
  exact (List.mem_zipIdx hq).2.2 ▸ List.getElem_mem _
theorem wp_nl (h : ps.length = dss.length → Wp F tb D ds (pre ++ nest f l ps dss)) : Wp F tb D ds (pre ++ nest f l ps dss) := fun σ H ⟨B, st, s, t, lo⟩ => h (nest_len s) σ H ⟨B, st, s, t, lo⟩
/-! ### nests made -/
theorem lcNestG {wi : TI} {g : TG} {G : M → Prop} {items : List α} {up : α → List SD → List SD} {js vs : List Nat} {step : α → Option (List β)} (hs : Src K wi g ds m m1 G items up js) (hjs : ∀ j ∈ js, j ∈ vs) (hG : ∀ c, G (m1 ++ c)) (hn : lenG items.length = some ()) (h : mapO step items = some dss)
    (body : ∀ x y, x ∈ items → step x = some y → ∀ c, EvN K te (up x (wipeD ds vs)) (m1 ++ c) (.ls (y.map f)) (m1 ++ c)) :
    ∀ B H σ, SOk K B m H → StOk K B ds σ → ∀ Q : VK, (∀ l ps B2 H2, Tr B H (keys m) B2 H2 (keys (m1 ++ nest f l ps dss)) → SOk K B2 (m1 ++ nest f l ps dss) H2 → Q (.ref l) H2) → tLc wi g tYes te vs σ H Q := by
  intro B H σ s st Q q
  have hnn := lenG_some hn
  have hdl : dss.length = items.length ∧ ∀ (i : Nat) (x : α), items[i]? = some x → ∃ y, step x = some y ∧ dss[i]? = some y := by
    clear q hs hG body hn hnn
    induction items generalizing dss with
    | nil => cases h; exact ⟨rfl, fun i x hx => by simp at hx⟩
    | cons x xs ih =>
      obtain ⟨y, h1, h⟩ := bindS h
      obtain ⟨ys, h2, h⟩ := bindS h
      cases h
      obtain ⟨g1, g2⟩ := ih h2
      refine ⟨by rw [List.length_cons, List.length_cons, g1], fun i z hz => ?_⟩
      cases i with
      | zero =>
        cases hz
        exact ⟨y, h1, rfl⟩
      | succ i => exact g2 i z hz
  obtain ⟨hdl, hst⟩ := hdl
  refine hs B H σ s st _ fun J B1 H1 t1 s1 T D hD => ?_
  refine ⟨fun i k H' => k = items.length - i ∧ i ≤ items.length ∧ ∃ B' ps, Tr B H (keys m) B' H' (keys (m1 ++ nest f D ps (dss.take i))) ∧ Ex B1 B' ∧ SOk K B' (m1 ++ nest f D ps (dss.take i)) H',
    ⟨items.length, by simp, Nat.zero_le _, B1, [], t1.trans (Tr.cell s1 hD), Ex.refl _, s1.cell hD (show CdOk K B1 (.lr (([] : List Addr).map SD.rf)) (.lst []) from True.intro)⟩, ?_⟩
  rintro i k H' ⟨rfl, hi, B', ps, tr, eB, sk⟩
  have hlen := nest_len sk
  by_cases hlt : i < items.length
  · refine .inr ⟨T.1 i H' B' _ hlt eB (hG _) sk, fun H'' => i + 1 ≤ items.length ∧ ∃ B' ps, Tr B H (keys m) B' H'' (keys (m1 ++ nest f D ps (dss.take (i + 1)))) ∧ Ex B1 B' ∧ SOk K B' (m1 ++ nest f D ps (dss.take (i + 1))) H'',
      fun H'' p => ⟨items.length - (i + 1), by omega, rfl, p⟩, fun x H'' hy => ?_⟩
    have hx : items[i]? = some items[i] := List.getElem?_eq_getElem hlt
    obtain ⟨y, hy1, hy2⟩ := hst i _ hx
    refine T.2.2 i items[i] x H' H'' B' _ (wipeD ds vs) (wipe σ vs) hx eB (hG _) sk (st_wipe (st_mono (t1.ex.trans eB) st) vs) hy _ fun B2 σ2 t2 s2 st2 hset => ⟨wipe_sets hset hjs, ?_⟩
    refine et_yes B2 H'' σ2 s2 st2 _ fun B3 H3 t3 s3 => iteT ?_
    refine body items[i] y (List.getElem_mem hlt) hy1 _ B3 H3 σ2 s3 (st_mono t3.ex st2) _ fun p B4 H4 t4 s4 => ?_
    have hjD : ((m1 ++ nest f D ps (dss.take i)) ++ [(p, CD.ls (y.map f))])[m1.length]? = some (D, .lr (ps.map SD.rf)) := by
      rw [List.append_assoc, List.getElem?_append_right (Nat.le_refl _), Nat.sub_self, nest_eq hlen]
      rfl
    obtain ⟨ws, hw, hwa⟩ := s4.lr hjD
    have hwl : ws.length = ps.length := by rw [sda_refs hwa, List.length_map]
    have hil : (dss.take i).length = i := by rw [List.length_take]; omega
    rw [hil] at hlen
    have hset2 : ((m1 ++ nest f D ps (dss.take i)) ++ [(p, CD.ls (y.map f))]).set m1.length (D, .lr ((ps ++ [p]).map SD.rf)) = m1 ++ nest f D (ps ++ [p]) (dss.take (i + 1)) := by
      have hlt2 : i < dss.length := by omega
      have ey : dss[i] = y := by
        rw [List.getElem?_eq_getElem hlt2] at hy2
        exact Option.some.inj hy2
      rw [List.append_assoc, List.set_append_right _ _ (Nat.le_refl _), Nat.sub_self, nest_eq (by rw [hil]; exact hlen), nest_eq (by rw [List.length_append, List.length_take]; show ps.length + 1 = _; omega)]
      have e : dss.take (i + 1) = dss.take i ++ [y] := by rw [← ey]; exact (List.take_append_getElem hlt2).symm
      rw [e, List.zipWith_append (by rw [hil]; exact hlen)]
      rfl
    have hcd : CdOk K B4 (.lr ((ps ++ [p]).map SD.rf)) (.lst (ws ++ [.ref p])) := by
      rw [List.map_append]
      exact sda_app hwa
    have t5 := Tr.put s4 hjD hcd
    have s5 := s4.put hjD hcd
    rw [hset2] at t5 s5
    exact ⟨ws, hw, by rw [sizeLine_eq]; omega, hlt, B4, ps ++ [p], (((tr.trans t2).trans t3).trans t4).trans t5, ((eB.trans t2.ex).trans t3.ex).trans t4.ex, s5⟩
  · have e : i = items.length := by omega
    subst e
    rw [← hdl, List.take_length] at tr sk
    refine .inl ⟨T.2.1 H' B' _ eB (hG _) sk, q D ps B' H' tr sk⟩
end
/-! ### slices with a step -/
def tSlX (K : PySem.W.Frag) (te : TE) (tl th ts : TO) : TE := fun σ H Q => te σ H fun x H1 => tl σ H1 fun lo H2 => th σ H2 fun hi H3 => ts σ H3 fun k H4 => ∃ a xs, x = .ref a ∧ SqL K H4 a xs ∧ k ≠ some 0 ∧ ∀ p, H4 p = none → Q (.ref p) (upd H4 p (.lst (((sliceRange (sliceBounds lo hi k xs.length).1 (sliceBounds lo hi k xs.length).2.1 (sliceBounds lo hi k xs.length).2.2)).filterMap (xs[·]?))))
theorem vals_pick {vs : List V} {us : List Value} (r : Vals vs us) : ∀ ix : List Nat, Vals (ix.filterMap (vs[·]?)) (ix.filterMap (us[·]?))
  | [] => .nil
  | i :: ix => by
    have ih := vals_pick r ix
    have hl := r.length
    rw [List.filterMap_cons, List.filterMap_cons]
    by_cases h : i < vs.length
    · obtain ⟨w, e, rw'⟩ := r.get (List.getElem?_eq_getElem h)
      rw [List.getElem?_eq_getElem h, e]
      exact .cons rw' ih
    · rw [List.getElem?_eq_none (by omega), List.getElem?_eq_none (by omega)]
      exact ih
theorem pe_sliceX {X : Cx} {e st0 : Expr} {te : TE} {lo hi : Option Expr} {tl th ts : TO} {pos p2 : Pos} (he : PE X e te) (hl : PO X lo tl) (hu : PO X hi th) (hs : PO X (some st0) ts) : PE X (.Subscript e (.Slice lo hi (some st0) p2) pos) (tSlX X.K te tl th ts) := by
  refine ⟨fun pins s σ H Q I h => Subscript_ (thn (he.run pins s σ H _ I h) fun v s1 h1 => ?_)⟩
  obtain ⟨x, H1, I1, r1, q1⟩ := h1
  refine wpAny_Slice (thn (hl.run pins s1 σ H1 _ I1 q1) fun vl s2 h2 => ?_)
  obtain ⟨l, H2, I2, pl, q2⟩ := h2
  refine thn (hu.run pins s2 σ H2 _ I2 q2) fun vu s3 h3 => ?_
  obtain ⟨u, H3, I3, pu, q3⟩ := h3
  refine thn (hs.run pins s3 σ H3 _ I3 q3) fun vs s4 h4 => ?_
  obtain ⟨k, H4, I4, pk, a, xs, ex, hx, hk, q⟩ := h4
  subst ex
  cases r1
  have I5 : Inv X pins σ H4 { s4 with heap := s4.heap.push { cls := .type "slice", data := .fields #[vl, vu, vs] } } := I4.kept (t' := s4.toks) fun b ob z => Heap.get?_push_of_some _ z
  obtain ⟨its, r, ht, hz⟩ := I5.list hx
  have hlen := r.length
  show wpAny (model X.prog X.w) X.A (subscriptTail e (.Slice lo hi (some st0) p2) (.ref a) (.ref s4.heap.objs.size)) (EP X pins σ Q) X.xe { s4 with heap := s4.heap.push { cls := .type "slice", data := .fields #[vl, vu, vs] } }
  refine tail_any (ops := [.ref a, .ref s4.heap.objs.size]) ht.isList.typeIs (PySem.slot_list_getitem.lookup) ?_ (by with_unfolding_all rfl)
  refine wpAny_getItem_list_slice ht.isList (Heap.IsSliceOf.new _ vl vu vs) pl pu pk hk ?_ (by rw [List.size_toArray]; omega)
  have hsz := slicePick_size_le its.toArray l u k
  have e1 : slicePick its.toArray l u k = (((sliceRange (sliceBounds l u k xs.length).1 (sliceBounds l u k xs.length).2.1 (sliceBounds l u k xs.length).2.2)).filterMap (its[·]?)).toArray := by
    unfold slicePick
    rw [List.size_toArray, hlen]
    have e0 : (fun i : Nat => its.toArray[i]?) = fun i => its[i]? := by funext i; exact List.getElem?_toArray
    rw [e0]
  rw [e1] at hsz ⊢
  rw [List.size_toArray, List.size_toArray] at hsz
  have hv := vals_pick r (sliceRange (sliceBounds l u k xs.length).1 (sliceBounds l u k xs.length).2.1 (sliceBounds l u k xs.length).2.2)
  refine ⟨.ref _, _, I5.laid (t' := s4.toks) (o := .lst _) (fun b ob z => Heap.get?_push_of_some _ z) (Nat.le_refl _) ?_, rfl, q _ (I5.hok.fresh (Nat.le_refl _))⟩
  exact ⟨by rw [hv.length]; omega, _, 0, hv, Heap.get?_push_size _ rfl⟩
end FC
namespace FC
open PySem PySem.Spec PyProof.Rows L2 Evl
section
variable {K : PySem.W.Frag} {ds : List SD} {m m1 m2 pre : M} {α β : Type} {f : β → PyData} {te ta tb to : TE} {l p C dx : Addr} {ps : List Addr} {dss : List (List β)} {F : Fx} {D : Ends} {tz : TS} {sds : List SD} {names : List Str}
theorem ev_listR {q0 : Addr} {xs : List β} {j : Nat} (hj : ds[j]? = some (.rf q0)) (h : (q0, xs) ∈ ps.zip dss) : Ev K (tCB (rListOf K) (tCons (tVar j) tNil)) ds (pre ++ nest f l ps dss) (.da (dL f xs)) (pre ++ nest f l ps dss) := fun B H σ s st Q q => by
  obtain ⟨k, hk⟩ := nest_row s h
  exact ev_cb (ea_cons (ev_rf hj) ea_nil) (rc_listC (f := f) k hk) B H σ s st Q q
/-- xs * n as a new list -/
theorem en_rep {xs ys : List β} {n : Int} (ha : Ev K ta ds m (.da (dL f xs)) m1) (hb : Ev K tb ds m1 (.da (dI n)) m2) (h : repI xs n = some ys) : EvN K (tOp rRep ta tb) ds m (.ls (ys.map f)) m2 := fun B H σ s st Q q =>
  ha B H σ s st _ fun x B1 H1 t1 s1 d1 => hb B1 H1 σ s1 (st_mono t1.ex st) _ fun y B2 H2 t2 s2 d2 => by
    obtain ⟨p0, ws, rfl, hp, hd⟩ := lst_of (sd_mono t2.ex d1)
    have h1 := dpa_len hd
    rw [List.length_map] at h1
    unfold repI at h
    split at h
    · rename_i hc
      have e := Option.some.inj h
      subst e
      refine ⟨p0, n, ws, rfl, int_of d2, s2.ext _ _ hp, hc.1, hc.2.1, by rw [sizeLine_eq, h1]; omega, fun l hl => q l _ _ ((t1.trans t2).trans (Tr.cell s2 hl)) (s2.cell hl ?_)⟩
      show DqAll B2 _ _
      rw [List.map_flatten, List.map_replicate]
      exact dqa_rep hd _
    · cases h
/-- o.f = a new nest, a field's first store -/
theorem wp_fld0Nest (j : Nat) {fn : Str} (hc : ∀ B H σ, SOk F.K B m H → StOk F.K B ds σ → ∀ Q : VK, (∀ l ps B2 H2, Tr B H (keys m) B2 H2 (keys (m1 ++ nest f l ps dss)) → SOk F.K B2 (m1 ++ nest f l ps dss) H2 → Q (.ref l) H2) → te σ H Q) (ho : ∀ m, Ev F.K ta ds m (.rf p) m) (hj : m1[j]? = some (p, obj C dx names sds)) (hp : PutAt fn names sds.length) (hn : names.length < 500) (c : Cls F.K C) (n : NoAttr F.K C fn)
    (k : ∀ l ps, Wp F tz D ds ((m1 ++ nest f l ps dss).set j (p, obj C dx names (sds ++ [.rf l])))) : Wp F (tSeq (sFld F.K ta te fn) tz) D ds m := fun σ H ⟨B, st, s, t, lo⟩ =>
  hc B H σ s st _ fun l ps B1 H1 t1 s1 => by
    refine ho _ B1 H1 σ s1 (st_mono t1.ex st) _ fun x B2 H2 t2 s2 d2 => ?_
    have e : x = .ref p := d2
    subst e
    have hlt : j < m1.length := (List.getElem?_eq_some_iff.mp hj).1
    have hj2 : (m1 ++ nest f l ps dss)[j]? = some (p, obj C dx names sds) := by
      rw [List.getElem?_append_left hlt]
      exact hj
    obtain ⟨vs, h1, h3⟩ := new_obj (sd := .rf l) (v := .ref l) s2 hj2 hp rfl
    refine ⟨p, C, dx, _, rfl, h1, c, n, by rw [List.length_zip]; omega, ?_⟩
    exact k l ps σ _ ⟨B2, st_mono (t1.ex.trans t2.ex) st, s2.put hj2 h3, ((t.trans t1).trans t2).trans (Tr.put s2 hj2 h3), lo.trans (t1.ex.trans t2.ex)⟩
/-! ### slices with a step, of data -/
def stpI (xs : List β) (lo hi : Option Int) (k : Int) : Option (List β) := if k = 0 then none else some ((sliceRange (sliceBounds lo hi (some k) xs.length).1 (sliceBounds lo hi (some k) xs.length).2.1 (sliceBounds lo hi (some k) xs.length).2.2).filterMap (xs[·]?))
theorem dqa_pick {B : Hp} {vs : List V} {dl : List PyData} (h : DqAll B vs dl) : ∀ ix : List Nat, DqAll B (ix.filterMap (vs[·]?)) (ix.filterMap (dl[·]?))
  | [] => .nil
  | i :: ix => by
    have ih := dqa_pick h ix
    have hl := dpa_len h
    rw [List.filterMap_cons, List.filterMap_cons]
    by_cases hi : i < dl.length
    · obtain ⟨w, e, d⟩ := dqa_get h (List.getElem?_eq_getElem hi)
      rw [List.getElem?_eq_getElem hi, e]
      exact .cons d ih
    · rw [List.getElem?_eq_none (by omega), List.getElem?_eq_none (by omega)]
      exact ih
theorem map_pick (xs : List β) : ∀ ix : List Nat, (ix.filterMap (xs[·]?)).map f = ix.filterMap ((xs.map f)[·]?)
  | [] => rfl
  | i :: ix => by
    have ih := map_pick xs ix
    rw [List.filterMap_cons, List.filterMap_cons, List.getElem?_map]
    cases xs[i]? with
    | none => exact ih
    | some x => rw [List.map_cons, ih]; rfl
theorem ev_stp {xs ys : List β} {tl th ts : TO} {lo hi : Option Int} {k : Int} {m3 m4 : M} (ha : Ev K ta ds m (.da (dL f xs)) m1) (hl : EvO K tl ds m1 lo m2) (hh : EvO K th ds m2 hi m3) (hs : EvO K ts ds m3 (some k) m4) (h : stpI xs lo hi k = some ys) : Ev K (tSlX K ta tl th ts) ds m (.da (dL f ys)) m4 := fun B H σ s st Q q =>
  ha B H σ s st _ fun x B1 H1 t1 s1 d1 => hl B1 H1 σ s1 (st_mono t1.ex st) _ fun B2 H2 t2 s2 => hh B2 H2 σ s2 (st_mono (t1.ex.trans t2.ex) st) _ fun B3 H3 t3 s3 => hs B3 H3 σ s3 (st_mono ((t1.ex.trans t2.ex).trans t3.ex) st) _ fun B4 H4 t4 s4 => by
    obtain ⟨p0, vs, rfl, hp, hd⟩ := lst_of (sd_mono ((t2.ex.trans t3.ex).trans t4.ex) d1)
    unfold stpI at h
    split at h
    · cases h
    · rename_i hk
      have e := Option.some.inj h
      subst e
      have hlen := dpa_len hd
      rw [List.length_map] at hlen
      refine ⟨p0, vs, rfl, SqL.of (s4.ext _ _ hp), fun z => hk (Option.some.inj z), fun w hw => q _ _ _ ((((t1.trans t2).trans t3).trans t4).trans (Tr.data s4 hw)) (s4.data hw) (Dq.lst upd_same ?_)⟩
      rw [map_pick, hlen]
      exact dqa_pick (dpa_mono (Ex.new (fresh_b s4 hw)) hd) _
end
end FC
set_option maxHeartbeats 400000
/-! FI: a tuple zipped with a list; lists of triples walked; `in range`; options in tuples; new lists from sums. -/
namespace FC
open PySem PySem.Spec PyProof.Rows L2 Evl
/-! ### zip(tuple, list) -/
/-- a tuple at a, a list at b, both as they stand at each turn -/
def ItzX (K : PySem.W.Frag) (a b : Addr) : It where
  go := fun i H => ∃ (xs ys : List V) (x y : V), SqT K H a xs ∧ SqL K H b ys ∧ xs[i]? = some x ∧ ys[i]? = some y
  yld := fun i H v H' => ∃ T x y, v = .ref T ∧ H T = none ∧ H' = upd H T (.tup [x, y]) ∧ (∀ xs, SqT K H a xs → xs[i]? = some x) ∧ ∀ ys, SqL K H b ys → ys[i]? = some y
  stop := fun i H => ∃ xs ys : List V, SqT K H a xs ∧ SqL K H b ys ∧ i = min xs.length ys.length
theorem five {c z t u i j : Addr} (h : c ∈ [z, t, u, i, j]) : c = z ∨ c = t ∨ c = u ∨ c = i ∨ c = j := by simpa using h
theorem tup_apart {h : Heap} {a i : Addr} {k : Nat} {xs : Array Value} (p : h.IsTuple a xs) (j : h.IsTupleIter i a k) : a ≠ i := fun e => by
  obtain ⟨o, g, _, n, d⟩ := p
  obtain ⟨o', g', _, d'⟩ := j
  rw [e, g'] at g
  cases g
  rw [d] at d'
  cases d'
theorem lst_apart {h : Heap} {a i : Addr} {k : Nat} {xs : Array Value} (p : h.IsList a xs) (j : h.IsListIter i a k) : a ≠ i := fun e => by
  obtain ⟨o, g, _, n, d⟩ := p
  obtain ⟨o', g', _, d'⟩ := j
  rw [e, g'] at g
  cases g
  rw [d] at d'
  cases d'
theorem turn_zipX {P : Program} {w : World} {K : PySem.W.Frag} {es : List Expr} {kk : Nat} {tp : Pos} {a b z TI TO i1 i2 : Addr} (D : ZipSep2 z TI TO i1 i2 [i1, a] [i2, b]) :
    Turn P w K (.Tuple es kk tp) (ItzX K a b) [z, TI, TO, i1, i2] z fun i h => IsZip h z TI TO .none ∧ IsTupOf2 h TI (.ref i1) (.ref i2) ∧ (∃ x y, IsTupOf2 h TO x y) ∧ h.IsTupleIter i1 a i ∧ h.IsListIter i2 b i where
  mem := List.mem_cons_self
  obj := fun i h st c hcm => by
    obtain ⟨gz, gI, ⟨x, y, gO⟩, ⟨o1, e1, _, d1⟩, ⟨o2, e2, _, d2⟩⟩ := st
    rcases five hcm with e | e | e | e | e <;> subst e
    · exact ⟨_, gz, fun v q => by cases q⟩
    · exact ⟨_, gI, fun v q => by cases q⟩
    · exact ⟨_, gO, fun v q => by cases q⟩
    · exact ⟨o1, e1, fun v q => by rw [d1] at q; cases q⟩
    · exact ⟨o2, e2, fun v q => by rw [d2] at q; cases q⟩
  keep := fun i h h' st k => by
    obtain ⟨gz, gI, ⟨x, y, gO⟩, j1, j2⟩ := st
    have kk : ∀ c o, c ∈ [z, TI, TO, i1, i2] → h.get? c = some o → h'.get? c = some o := fun c o hcm e => k c hcm o e
    exact ⟨kk z _ (by simp) gz, kk TI _ (by simp) gI, ⟨x, y, kk TO _ (by simp) gO⟩, j1.at fun o q => kk i1 o (by simp) q, j2.at fun o q => kk i2 o (by simp) q⟩
  item := by
    intro X hP hw hK hc i pins s σ H E I hf st hg
    subst hP hw hK
    obtain ⟨gz, gI, ⟨x0, y0, gO⟩, j1, j2⟩ := st
    obtain ⟨xs, ys, x, y, sx, sy, hx, hy⟩ := hg
    obtain ⟨its, rv, p, _⟩ := I.tuple sx
    obtain ⟨its2, rv2, p2, _⟩ := I.list sy
    obtain ⟨u, hu, ru⟩ := rv.get hx
    obtain ⟨u2, hu2, ru2⟩ := rv2.get hy
    have hd := I.ok.hd hc
    have zlt : z < s.heap.objs.size := Heap.lt_size gz
    have n1 : i < its.toArray.size := by rw [List.size_toArray]; exact (List.getElem?_eq_some_iff.mp hu).1
    have n2 : i < its2.toArray.size := by rw [List.size_toArray]; exact (List.getElem?_eq_some_iff.mp hu2).1
    have na : a ≠ i1 := tup_apart p j1
    have nb : b ≠ i2 := lst_apart p2.isList j2
    refine wpAny_pyNext_zipD2_item D (Draws.tuple (show X.A.in1.handled = none from hd) i1 a na its.toArray) (Draws.list (show X.A.in1.handled = none from hd) i2 b nb its2.toArray) gz gI gO ⟨j1, p⟩ ⟨j2, p2.isList⟩ n1 n2 fun v1 v2 h' tk y1 y2 gz' gO' st1 st2 gT hsz hk => ?_
    have e1 : v1 = u := by
      rw [List.getElem?_toArray, hu] at y1
      exact (Option.some.inj y1).symm
    have e2 : v2 = u2 := by
      rw [List.getElem?_toArray, hu2] at y2
      exact (Option.some.inj y2).symm
    subst e1 e2
    refine ⟨_, rfl, wpAny_letOwnedTupleGo_zip (s := { s with heap := h', toks := tk }) gz' fun h2 gz2 sb => ?_⟩
    have T2 : h2.get? s.heap.objs.size = some { cls := .type "tuple", data := .seq #[v1, v2] } := (sb.2 _ (Nat.ne_of_gt zlt)).trans gT
    have ob : ObjOk X.prog X.w (upd H s.heap.objs.size (.tup [x, y])) h2 s.heap.objs.size (.tup [x, y]) := ⟨by show 2 ≤ sizeLine; decide, [v1, v2], .cons ru (.cons ru2 .nil), ⟨_, T2, rfl, _, rfl⟩⟩
    have I2 : Inv X pins σ (upd H s.heap.objs.size (.tup [x, y])) { s with heap := h2, toks := tk } := by
      refine I.turnedNew (ch := [z, TI, TO, i1, i2]) (fun c o hb q => ?_) hf (Nat.le_refl _) ob
      have hb' : c ≠ z ∧ c ≠ TI ∧ c ≠ TO ∧ c ≠ i1 ∧ c ≠ i2 := by simpa using hb
      exact (sb.2 c hb'.1).trans (hk c o hb'.1 hb'.2.2.1 hb'.2.2.2.1 hb'.2.2.2.2 q)
    refine ⟨.ref s.heap.objs.size, _, I2, rfl, ⟨_, x, y, rfl, I.hok.fresh (Nat.le_refl _), rfl, fun l hl => by rw [I.tuple_inj hl sx]; exact hx, fun l hl => by rw [I.list_inj hl sy]; exact hy⟩, ⟨gz2, ?_, ⟨v1, v2, ?_⟩, ?_, ?_⟩, fun c hcm => ?_⟩
    · exact (sb.2 _ D.TIz).trans (hk _ _ D.TIz D.TITO D.TIi1 D.TIi2 gI)
    · exact (sb.2 _ D.TOz).trans gO'
    · exact st1.1.at fun o q => (sb.2 _ D.zi1.symm).trans q
    · exact st2.1.at fun o q => (sb.2 _ D.zi2.symm).trans q
    · have lt : c < s.heap.objs.size := by
        obtain ⟨_, q1, _⟩ := j1
        obtain ⟨_, q2, _⟩ := j2
        rcases five hcm with e | e | e | e | e <;> subst e
        · exact zlt
        · exact Heap.lt_size gI
        · exact Heap.lt_size gO
        · exact Heap.lt_size q1
        · exact Heap.lt_size q2
      rw [upd_ne (Nat.ne_of_lt lt)]
      exact (hf c hcm).1
  done := by
    intro X hP hw hK hc i pins s σ H E I hf st hg
    subst hP hw hK
    obtain ⟨gz, gI, ⟨x0, y0, gO⟩, j1, j2⟩ := st
    obtain ⟨xs, ys, sx, sy, he⟩ := hg
    obtain ⟨its, rv, p, _⟩ := I.tuple sx
    obtain ⟨its2, rv2, p2, _⟩ := I.list sy
    have l1 := rv.length
    have l2 := rv2.length
    have hd := I.ok.hd hc
    have na : a ≠ i1 := tup_apart p j1
    have nb : b ≠ i2 := lst_apart p2.isList j2
    refine wpAny_pyNext_zipD2_end D (Draws.tuple (show X.A.in1.handled = none from hd) i1 a na its.toArray) (Draws.list (show X.A.in1.handled = none from hd) i2 b nb its2.toArray) gz gI gO ⟨j1, p⟩ ⟨j2, p2.isList⟩ (by rw [List.size_toArray]; omega) (by rw [List.size_toArray]; omega) (by rw [List.size_toArray, List.size_toArray]; omega) fun h' tk hk => ⟨rfl, ?_⟩
    refine I.turnedL (ch := [z, TI, TO, i1, i2]) (fun c o hb q => ?_) hf
    have hb' : c ≠ z ∧ c ≠ TI ∧ c ≠ TO ∧ c ≠ i1 ∧ c ≠ i2 := by simpa using hb
    exact hk c o hb'.1 hb'.2.2.1 hb'.2.2.2.1 hb'.2.2.2.2 q
  self := fun A i s Q E st h => wpAny_pyIter_zip st.1 h
def iZipX (K : PySem.W.Frag) (ta : TA) : TI := fun σ H R => ta σ H fun vs H1 => ∃ a b xs ys, vs = [.ref a, .ref b] ∧ SqT K H1 a xs ∧ SqL K H1 b ys ∧ R (ItzX K a b) H1
theorem sep_new {n a b : Nat} (ha : a < n) (hb : b < n) : ZipSep2 (n + 4) (n + 2) (n + 3) n (n + 1) [n, a] [n + 1, b] := by
  have ne : ∀ {x y : Nat}, x < y → (y : Addr) ≠ x := fun h e => Nat.ne_of_gt h e
  have nin : ∀ {c u v : Nat}, u < c → v < c → (c : Addr) ∉ [u, v] := fun h1 h2 h => by
    rcases List.mem_cons.mp h with e | h
    · exact Nat.ne_of_gt h1 e
    · exact Nat.ne_of_gt h2 (List.mem_singleton.mp h)
  refine ⟨(ne (by omega)).symm, (ne (by omega)).symm, (ne (by omega)).symm, ne (by omega), List.mem_cons_self, nin (by omega) (by omega), nin (by omega) (by omega), ne (by omega), List.mem_cons_self, nin (by omega) (by omega), nin (by omega) (by omega), fun h => ?_, nin (by omega) (by omega)⟩
  rcases List.mem_cons.mp h with e | h
  · exact (ne (Nat.lt_succ_self n)).symm e
  · exact ne hb (List.mem_singleton.mp h)
theorem pi_zipX {X : Cx} {e e2 : Expr} {ta : TA} {p pos tp : Pos} {es : List Expr} {kk : Nat} (hg : Gl X "zip") (hm : X.mg "zip" = none) (ha : PA X [e, e2] ta)
    (hs : starEach [e, e2] X.env = (false, eval e X.env) :: starEach [e2] X.env := by rfl) (hl : (backTo pos (starEach [e2] X.env)).any (·.1) = false := by rfl) : PI X (.Tuple es kk tp) (.Call (.Name "zip" p) [e, e2] [] pos) (iZipX X.K ta) := by
  refine ⟨fun pins s σ H R I h => Call_ (ld_blt I hg hm PyProof.Rows.boot_zip (PyProof.Rows.callWith_type1 (thn (ha.run pos pins s σ H _ I h) fun us s1 h1 => ?_) hs hl))⟩
  obtain ⟨vs, H1, I1, r1, a, b, xs, ys, ex, sx, sy, q⟩ := h1
  subst ex
  obtain ⟨v1, v2, rfl, r2, r3⟩ := vals2 r1
  cases r2
  cases r3
  obtain ⟨its, rv, p1, _⟩ := I1.tuple sx
  obtain ⟨its2, rv2, p2, _⟩ := I1.list sy
  obtain ⟨o1, ho1, _⟩ := id p1
  refine zip_begins2 (begins_tuple a its.toArray) (begins_list b its2.toArray) p1 p2.isList fun h' gz gI gO g1 g2 hsz hk => wpAny_pyIter_zip gz ?_
  have I2 : Inv X pins σ H1 { s1 with heap := h' } := I1.kept (t' := s1.toks) hk
  refine ⟨_, [s1.heap.objs.size + 4, s1.heap.objs.size + 2, s1.heap.objs.size + 3, s1.heap.objs.size, s1.heap.objs.size + 1], _, _, H1, rfl, I2, turn_zipX (sep_new (Heap.lt_size ho1) p2.lt), ⟨gz, gI, ⟨_, _, gO⟩, ⟨_, g1, rfl, rfl⟩, ⟨_, g2, rfl, rfl⟩⟩, fun c hcm => ?_, q⟩
  have le : s1.heap.objs.size ≤ c := by
    rcases five hcm with e | e | e | e | e <;> rw [e] <;> first | exact Nat.le_refl _ | exact Nat.le_add_right _ _
  exact I1.fpOk le (I1.hok.fresh le)
theorem zipd {α β : Type} {xs : List α} {ys : List β} {i : Nat} (h : i < (xs.zip ys).length) : i < xs.length ∧ i < ys.length := by
  rw [List.length_zip] at h
  omega
section
variable {K : PySem.W.Frag} {B H : Hp} {ds : List SD} {m m1 m2 m3 : M} {α β γ : Type} {f : α → PyData} {f2 : β → PyData} {f3 : γ → PyData} {te ta tb tl : TE} {t : TA} {F : Fx} {D : Ends} {tz : TS}
theorem src_ZX {xs : List α} {ys : List β} {j k : Nat} (h : EvA K t ds m [.da (dU f xs), .da (dL f2 ys)] m1) : Src K (iZipX K t) (gTup K 2 (gCons (gName j) (gCons (gName k) gNil))) ds m m1 (fun _ => True) (xs.zip ys) (fun p ds => (ds.set j (.da (f p.1))).set k (.da (f2 p.2))) ([j] ++ [k]) := fun B H σ s st R q => h B H σ s st _ fun vs B1 H1 t1 s1 d1 => by
  obtain ⟨v, w, rfl, d, d'⟩ := sda2 d1
  obtain ⟨p, vs, rfl, hp, ha⟩ := tup_of d
  obtain ⟨p2, ws, rfl, hp2, hb⟩ := lst_of d'
  have la := dpa_len ha
  have lb := dpa_len hb
  rw [List.length_map] at la lb
  have T1 : ∀ {H B' m'}, Ex B1 B' → SOk K B' m' H → SqT K H p vs := fun e s => SqT.of (s.ext _ _ (e _ _ hp))
  have T2 : ∀ {H B' m'}, Ex B1 B' → SOk K B' m' H → SqL K H p2 ws := fun e s => SqL.of (s.ext _ _ (e _ _ hp2))
  refine ⟨p, p2, vs, ws, rfl, T1 (Ex.refl _) s1, T2 (Ex.refl _) s1, q _ B1 H1 t1 s1 ⟨fun i H B' m' hi e g s => ?_, fun H B' m' e g s => ⟨vs, ws, T1 e s, T2 e s, by rw [List.length_zip, la, lb]⟩, fun i x v H H' B' m' ds σ hx e g s st hy Q q => ?_⟩⟩
  · obtain ⟨i1, i2⟩ := zipd hi
    rw [← la] at i1
    rw [← lb] at i2
    exact ⟨vs, ws, vs[i], ws[i], T1 e s, T2 e s, List.getElem?_eq_getElem i1, List.getElem?_eq_getElem i2⟩
  · obtain ⟨T, u, u2, rfl, hT, rfl, y1, y2⟩ := hy
    obtain ⟨g1, g2⟩ := zip_some hx
    obtain ⟨w1, c1, c2⟩ := dqa_some ha g1
    obtain ⟨w2, c3, c4⟩ := dqa_some hb g2
    have z1 := (y1 vs (T1 e s)).symm.trans c1
    have z2 := (y2 ws (T2 e s)).symm.trans c3
    cases z1
    cases z2
    exact tg_pair s st (dp_mono e c2) (dp_mono e c4) hT Q q
theorem triple_of {p : α × β × γ} {v : V} (h : SdOk K B (.da (d3 f f2 f3 p)) v) : ∃ q x y z, v = .ref q ∧ B q = some (.tup [x, y, z]) ∧ Dq B x (f p.1) ∧ Dq B y (f2 p.2.1) ∧ Dq B z (f3 p.2.2) := by
  have h' : Dq B v (.tuple [f p.1, f2 p.2.1, f3 p.2.2]) := h
  cases h' with
  | tup h1 h2 =>
    cases h2 with
    | cons a1 h2 =>
      cases h2 with
      | cons a2 h2 =>
        cases h2 with
        | cons a3 h2 =>
          cases h2
          exact ⟨_, _, _, _, rfl, h1, a1, a2, a3⟩
/-- a list of triples walked, taken apart -/
theorem src_L3 {xs : List (α × β × γ)} {i j k : Nat} (h : Ev K tl ds m (.da (dL (d3 f f2 f3) xs)) m1) : Src K (iList K tl) (gTup K 3 (gCons (gName i) (gCons (gName j) (gCons (gName k) gNil)))) ds m m1 (fun _ => True) xs (fun p ds => ((ds.set i (.da (f p.1))).set j (.da (f2 p.2.1))).set k (.da (f3 p.2.2))) ([i] ++ ([j] ++ [k])) := fun B H σ s st R q => h B H σ s st _ fun v B1 H1 t1 s1 d1 => by
  obtain ⟨p, vs, rfl, hp, ha⟩ := lst_of d1
  have la := dpa_len ha
  rw [List.length_map] at la
  have T1 : ∀ {H B' m'}, Ex B1 B' → SOk K B' m' H → SqL K H p vs := fun e s => SqL.of (s.ext _ _ (e _ _ hp))
  refine ⟨p, rfl, ⟨vs, T1 (Ex.refl _) s1⟩, q _ B1 H1 t1 s1 ⟨fun n H B' m' hi e g s => ?_, fun H B' m' e g s => ⟨vs, T1 e s, Nat.le_of_eq la⟩, fun n x v H H' B' m' ds σ hx e g s st hy Q q => ?_⟩⟩
  · have hn : n < vs.length := by omega
    exact ⟨vs, vs[n], T1 e s, List.getElem?_eq_getElem hn⟩
  · obtain ⟨rfl, y2⟩ := hy
    obtain ⟨w, c1, c2⟩ := dqa_some ha hx
    have z1 := (y2 vs (T1 e s)).symm.trans c1
    cases z1
    obtain ⟨T, x1, x2, x3, rfl, b0, b1, b2, b3⟩ := triple_of (K := K) (show SdOk K B1 (.da (d3 f f2 f3 x)) _ from c2)
    refine ⟨T, [x1, x2, x3], rfl, SqT.of (s.ext _ _ (e _ _ b0)), rfl, x1, [x2, x3], rfl, x2, [x3], rfl, x3, [], rfl, rfl, ?_⟩
    exact q B' _ (Tr.refl _ _ _) s (st_set k (st_set j (st_set i st (sl_of (s := .da (f x.1)) (dp_mono e b1))) (sl_of (s := .da (f2 x.2.1)) (dp_mono e b2))) (sl_of (s := .da (f3 x.2.2)) (dp_mono e b3))) (sets1.trans (sets1.trans sets1))
/-! ### i in range(n) -/
theorem cr_range1 {X : Cx} : CallR X (.type "range") (fun vs H Q => ∃ j, vs = [V.int j] ∧ ∀ p, H p = none → Q (.ref p) (upd H p (.rng 0 j))) := by
  intro pins s σ H vs us Q I r h
  obtain ⟨j, rfl, q⟩ := h
  obtain ⟨u1, rfl, rj⟩ := vals1 r
  obtain ⟨t, rfl⟩ := rj
  refine call_range_1 ⟨.ref s.heap.objs.size, upd H s.heap.objs.size (.rng 0 j), I.laid (t' := s.toks + 1 + 1) (fun b o e => Heap.get?_push_of_some _ e) (Nat.le_refl _) ?_, rfl, q _ (I.hok.fresh (Nat.le_refl _))⟩
  exact ⟨_, _, _, Heap.get?_push_size _ rfl⟩
def rInRg : R2 := fun x y H Q => ∃ i a lo hi, x = V.int i ∧ y = V.ref a ∧ H a = some (.rng lo hi) ∧ Q (.bl (decide (lo ≤ i ∧ i < hi))) H
theorem ev_inRg {i n : Int} (ha : Ev K ta ds m (.da (dI i)) m1) (hb : Ev K tb ds m1 (.da (dI n)) m2) : Ev K (tOp rInRg ta (tCB (fun vs H Q => ∃ j, vs = [V.int j] ∧ ∀ p, H p = none → Q (.ref p) (upd H p (.rng 0 j))) (tCons tb tNil))) ds m (.da (dB (decide (0 ≤ i ∧ i < n)))) m2 := fun B H σ s st Q q =>
  ha B H σ s st _ fun x B1 H1 t1 s1 d1 => hb B1 H1 σ s1 (st_mono t1.ex st) _ fun y B2 H2 t2 s2 d2 => by
    refine ⟨n, by rw [int_of d2], fun p hp => ⟨i, p, 0, n, int_of (sd_mono t2.ex d1), rfl, upd_same, ?_⟩⟩
    exact q _ _ _ ((t1.trans t2).trans (Tr.data s2 hp)) (s2.data hp) (.bl _)
/-! ### tuples -/
theorem dU_some (v : List α) : dU (dO f) (v.map some) = dU f v := by
  unfold dU
  rw [List.map_map]
  rfl
theorem ev_someU {v : List α} (h : Ev K te ds m (.da (dU f v)) m1) : Ev K te ds m (.da (dU (dO f) (v.map some))) m1 := by
  rw [dU_some]
  exact h
def rInT (K : PySem.W.Frag) (neg : Bool) : R2 := fun x y H Q => ∃ d ds, Dp K H x d ∧ Dp K H y (.tuple ds) ∧ d.plain = true ∧ PyData.plainAll ds = true ∧ d.depth ≤ 60 ∧ Q (.bl (if neg then !(ds.any fun y => PyData.eqv y d) else ds.any fun y => PyData.eqv y d)) H
theorem op_inT {X : Cx} (hu : X.A.units + 65 < cLine) : OpR X (compareOp .In) (rInT X.K false) := by
  intro pins s σ H x y v u Q I rx ry h
  obtain ⟨d, ds, hd, he, sd, se, hdp, q⟩ := h
  obtain ⟨as, r1⟩ := Dp.reads I d x v hd rx
  obtain ⟨bs, r2⟩ := Dp.reads I (.tuple ds) y u he ry
  refine PySem.SeqAt.in_tuple_data r2 r1 se sd ?_ ⟨.bl _, H, I, rfl, q⟩
  have := Nat.min_le_right (PyData.depthAll ds) d.depth
  omega
theorem rr_inU [DecidableEq α] [e : Enc f] {x : α} {xs : List α} (hd : Enc.dep f ≤ 60) : Rr K (rInT K false) (.da (f x)) (.da (dU f xs)) m (.da (dB (memB x xs))) m := Rr.of fun B H u v s dx dy Q q =>
  ⟨f x, xs.map f, da_dp s dx, da_dp s dy, Enc.plain x, plainAll_enc f xs, Nat.le_trans (Enc.dep_le x) hd, by
    show Q (.bl ((xs.map f).any fun d => PyData.eqv d (f x))) H
    rw [any_enc]
    exact q _ (.bl _)⟩
/-- a chain whose last one may be without an answer -/
theorem ev_chainX {tc : TE} {m' : M} {a b : SD} {r1 r2 : R2} {k k2 : Bool} (ha : Ev K ta ds m a m1) (hb : Ev K tb ds m1 b m2) (hr : Rr K r1 a b m2 (.da (.bool k)) m3)
    (hc : k = true → ∃ c m4, Ev K tc ds m3 c m4 ∧ Rr K r2 b c m4 (.da (.bool k2)) m') (hf : k = false → k2 = false ∧ m' = m3) : Ev K (tChain r1 r2 ta tb tc) ds m (.da (.bool k2)) m' := by
  cases k with
  | true =>
    obtain ⟨c, m4, h1, h2⟩ := hc rfl
    exact ev_chain (c := c) ha hb hr (fun _ => ⟨m4, h1, h2⟩) fun e => by cases e
  | false =>
    obtain ⟨e1, e2⟩ := hf rfl
    subst e1 e2
    exact ev_chain (c := .un) ha hb hr (fun e => by cases e) fun _ => ⟨rfl, rfl⟩
/-- a sum of lists as a new list -/
theorem en_cat {xs ys : List α} (ha : Ev K ta ds m (.da (dL f xs)) m1) (hb : Ev K tb ds m1 (.da (dL f ys)) m2) (hz : lenG (xs.length + ys.length) = some ()) : EvN K (tOp rCat ta tb) ds m (.ls ((xs ++ ys).map f)) m2 := fun B H σ s st Q q =>
  ha B H σ s st _ fun x B1 H1 t1 s1 d1 => hb B1 H1 σ s1 (st_mono t1.ex st) _ fun y B2 H2 t2 s2 d2 => by
    obtain ⟨p, vs, rfl, hp, ca⟩ := lst_of (sd_mono t2.ex d1)
    obtain ⟨p2, ws, rfl, hp2, cb⟩ := lst_of d2
    have l1 := dpa_len ca
    have l2 := dpa_len cb
    have l3 := lenG_some hz
    rw [List.length_map] at l1 l2
    refine ⟨p, p2, vs, ws, rfl, rfl, s2.ext _ _ hp, s2.ext _ _ hp2, by rw [sizeLine_eq]; omega, fun l hl => q l _ _ ((t1.trans t2).trans (Tr.cell s2 hl)) (s2.cell hl ?_)⟩
    show DqAll B2 _ _
    rw [List.map_append]
    exact dqa_app ca cb
end
end FC
set_option maxHeartbeats 400000
/-! FZ: data beside new cells; list(range) as a new list; dict of a list of pairs with whole keys; how many are unlike; `is` of truths. -/
namespace FC
open PySem PySem.Spec PyProof.Rows L2 Evl
section
variable {K : PySem.W.Frag} {B H : Hp} {ds : List SD} {m m1 m2 : M} {α : Type} {f : α → PyData} {te ta : TE} {t : TA}
theorem eg_da {d : PyData} (h : Ev K te ds m (.da d) m1) : EvG K te ds m (fun _ : Unit => .da d) (fun _ mN => mN = []) m1 := fun B H σ s st Q q => h B H σ s st Q fun v B2 H2 t2 s2 d2 => q v () [] B2 H2 rfl (by rw [List.append_nil]; exact t2) (by rw [List.append_nil]; exact s2) d2
theorem en_listRg1 {n : Int} {l : List Int} (h : Ev K ta ds m (.da (dI n)) m1) (hr : rngG 0 n = some l) (hn : lenG l.length = some ()) : EvN K (tLstRg (tRg1 ta)) ds m (.ls (l.map dI)) m1 := fun B H σ s st Q q => h B H σ s st _ fun v B1 H1 t1 s1 d1 => by
  obtain ⟨ok, e⟩ := rgOk_of hr hn
  subst e
  exact ⟨n, int_of d1, ok, fun p hp => q p _ _ (t1.trans (Tr.cell s1 hp)) (s1.cell hp (dqa_rng 0 n))⟩
/-! ### dict(pairs) -/
theorem merge_new : ∀ {ws kvs : List (Key × V)}, (∀ w ∈ ws, ∀ k ∈ kvs, w.1 ≠ k.1) → (ws.map Prod.fst).Nodup → mergeK kvs ws = kvs ++ ws
  | [], kvs, _, _ => (List.append_nil _).symm
  | w :: ws, kvs, h, hn => by
    have hn' := List.nodup_cons.mp hn
    have e : putK kvs w.1 w.2 = kvs ++ [w] := by
      unfold putK
      rw [if_neg]
      rw [List.any_eq_true]
      rintro ⟨k, hk, e⟩
      exact h w List.mem_cons_self k hk (of_decide_eq_true e).symm
    show mergeK (putK kvs w.1 w.2) ws = _
    rw [e, merge_new (fun x hx k hk => ?_) hn'.2, List.append_assoc]
    · rfl
    · rcases List.mem_append.mp hk with z | z
      · exact h x (List.mem_cons_of_mem _ hx) k z
      · rw [List.mem_singleton.mp z]
        intro z2
        exact hn'.1 (z2 ▸ List.mem_map_of_mem hx)
theorem pairs_dq : ∀ {kvs : List (Int × α)} {vs : List V}, (∀ {p o}, B p = some o → H p = some o) → DqAll B vs (kvs.map (dP dI f)) → ∃ (ps : List Addr) (ws : List (Key × V)), vs = ps.map V.ref ∧ Paired (fun p kv => SqT K H p [kV kv.1, kv.2]) ps ws ∧ KvOk B (eK kI f kvs) ws ∧ ws.map Prod.fst = kvs.map fun p => kI p.1
  | [], [], _, _ => ⟨[], [], rfl, .nil, True.intro, rfl⟩
  | kv :: kvs, v :: vs, hB, .cons h t => by
    obtain ⟨ps, ws, e1, e2, e3, e4⟩ := pairs_dq hB t
    obtain ⟨p, x, y, rfl, h4, h5, h6⟩ := pair_of (K := K) (show SdOk K B (.da (dP dI f kv)) v from h)
    have e5 : x = .int kv.1 := int_of (K := K) (show SdOk K B (.da (dI kv.1)) x from h5)
    subst e5
    exact ⟨p :: ps, (kI kv.1, y) :: ws, by rw [e1]; rfl, .cons (SqT.of (hB h4)) e2, ⟨⟨rfl, h6⟩, e3⟩, by rw [List.map_cons, e4]; rfl⟩
def rDictP (K : PySem.W.Frag) : List V → Hp → VK → Prop := fun xs H Q => ∃ (a : Addr) (ps : List Addr) (kvs : List (Key × V)), xs = [.ref a] ∧ SqL K H a (ps.map V.ref) ∧ Paired (fun p kv => SqT K H p [kV kv.1, kv.2]) ps kvs ∧ ∀ p, H p = none → Q (.ref p) (upd H p (.dK (mergeK [] kvs)))
theorem cr_dictP {X : Cx} (hc : X.calm = true) : CallR X (.type "dict") (rDictP X.K) := call_dictP hc
def dictP (kvs : List (Int × α)) : Option (List (Int × α)) := if (kvs.map Prod.fst).Nodup then some kvs else none
theorem rcn_dictP {kvs d : List (Int × α)} (h : dictP kvs = some d) : RcN K (rDictP K) [.da (dL (dP dI f) kvs)] m (KK.cell (κ := Int) f d) m := fun B H xs s dx Q q => by
  obtain ⟨v, rfl, d1⟩ := sda1 dx
  obtain ⟨p, vs, rfl, hp, ha⟩ := lst_of d1
  unfold dictP at h
  split at h
  · rename_i hn
    have e := Option.some.inj h
    subst e
    obtain ⟨ps, ws, rfl, h2, h3, h4⟩ := pairs_dq (K := K) (H := H) (fun z => s.ext _ _ z) ha
    refine ⟨p, ps, ws, rfl, SqL.of (s.ext _ _ hp), h2, fun a hn2 => q a _ _ (Tr.cell s hn2) (s.cell hn2 ?_)⟩
    have hnd : (ws.map Prod.fst).Nodup := by
      rw [h4]
      have e5 : (kvs.map fun p => kI p.1) = (kvs.map Prod.fst).map kI := by rw [List.map_map]; rfl
      rw [e5]
      exact hn.map (f := kI) fun a b hab z => hab (kI_inj z)
    rw [merge_new (fun _ _ k hk => by cases hk) hnd]
    exact h3
  · cases h
/-! ### len(set(..)) -/
theorem dq_ints : ∀ {xs : List Int} {vs : List V}, DqAll B vs (xs.map dI) → vs = xs.map V.int
  | [], _, .nil => rfl
  | x :: xs, v :: vs, .cons a b => by
    have a' : Dq B v (.int x) := a
    cases a'
    rw [dq_ints b]
    rfl
def setG (xs : List Int) : Option Int := if xs.Nodup ∧ xs.length ≤ 4000 then some (xs.length : Int) else none
theorem ev_lenSet {xs : List Int} {n : Int} (h : Ev K ta ds m (.da (dL dI xs)) m1) (hn : setG xs = some n) : Ev K (RZ.tLenSetI K ta) ds m (.da (dI n)) m1 := fun B H σ s st Q q => h B H σ s st _ fun v B1 H1 t1 s1 d1 => by
  obtain ⟨p, vs, rfl, hp, ha⟩ := lst_of d1
  unfold setG at hn
  split at hn
  · rename_i hc
    have e := Option.some.inj hn
    subst e
    have ev := dq_ints ha
    exact ⟨p, xs, rfl, by rw [← ev]; exact SqL.of (s1.ext _ _ hp), hc.1, hc.2, q _ B1 H1 t1 s1 (.int _)⟩
  · cases hn
theorem rr_isB {i j : Bool} : Rr K (fun x y H Q => ∃ a b, x = V.bl a ∧ y = V.bl b ∧ Q (.bl (decide (a = b))) H) (.da (dB i)) (.da (dB j)) m (.da (dB (decide (i = j)))) m := Rr.of fun B H x y s dx dy Q q => by
  cases dx
  cases dy
  exact ⟨i, j, rfl, rfl, q _ (.bl _)⟩
theorem rr_isNB {i j : Bool} : Rr K (fun x y H Q => ∃ a b, x = V.bl a ∧ y = V.bl b ∧ Q (.bl (!decide (a = b))) H) (.da (dB i)) (.da (dB j)) m (.da (dB (!decide (i = j)))) m := Rr.of fun B H x y s dx dy Q q => by
  cases dx
  cases dy
  exact ⟨i, j, rfl, rfl, q _ (.bl _)⟩
/-- a, b = data, a new cell -/
theorem wp_parDN {F : Fx} {D : Ends} {tz : TS} {tb : TE} {i j : Nat} {d : PyData} {c : CD} (h : Ev F.K te ds m (.da d) m1) (h2 : EvN F.K tb ds m1 c m2) (k : ∀ p, p ∉ F.k0 → Wp F tz D ((ds.set i (.da d)).set j (.rf p)) (m2 ++ [(p, c)])) (hm : keys m2 = keys m) : Wp F (tSeq (tPar i j (tCons te (tCons tb tNil))) tz) D ds m := fun σ H ⟨B, st, s, t, lo⟩ =>
  h B H σ s st _ fun v B1 H1 t1 s1 d1 => h2 B1 H1 σ s1 (st_mono t1.ex st) _ fun p B2 H2 t2 s2 => by
    have t3 := t1.trans t2
    have hp : H p = none := by
      have h1 : p ∈ keys (m2 ++ [(p, c)]) := by rw [keys_app]; exact List.mem_append_right _ (List.mem_singleton.mpr rfl)
      refine (t3.kys p h1).resolve_left fun z => ?_
      have nd := s2.nd
      rw [keys_app] at nd
      exact (List.nodup_append.mp nd).2.2 p (by rw [hm]; exact z) p (List.mem_singleton.mpr rfl) rfl
    refine ⟨v, .ref p, rfl, k p (fun z => ?_) _ H2 ⟨B2, st_set j (st_set i (st_mono t3.ex st) (sl_of (s := .da d) (sd_mono t2.ex d1))) (sl_of (s := .rf p) rfl), s2, t.trans t3, lo.trans t3.ex⟩⟩
    exact absurd hp (t.grow p (F.hk p z))
/-- xs[i], ys[j] = a, b -/
theorem set_ok {β : Type} {k : β → PyData} {xs ys : List β} {x : β} {i : Int} {v : V} {B H : Hp} {m : M} {l : Addr} {j : Nat} (s : SOk K B m H) (hj : m[j]? = some (l, .ls (xs.map k))) (hs : setI xs i x = some ys) (d : Dq B v (k x)) : ∃ vs jx, H l = some (.lst vs) ∧ ixN vs.length i = some jx ∧ CdOk K B (.ls (ys.map k)) (.lst (vs.set jx v)) := by
  obtain ⟨vs, h1, h2⟩ := s.ls hj
  have hl := dpa_len h2
  rw [List.length_map] at hl
  unfold setI at hs
  obtain ⟨jx, e1, e2⟩ := Option.map_eq_some_iff.mp hs
  refine ⟨vs, jx, h1, by rw [hl]; exact e1, ?_⟩
  subst e2
  rw [List.map_set]
  exact dqa_set jx h2 d
theorem wp_set2 {β γ : Type} {F : Fx} {D : Ends} {tz : TS} {tv to1 ti1 to2 ti2 : TE} {k : β → PyData} {k2 : γ → PyData} {x : β × γ} {xs xs' : List β} {ys ys' : List γ} {i1 i2 : Int} {l1 l2 : Addr} (j1 j2 : Nat) (hv : Ev F.K tv ds m (.da (dP k k2 x)) m1) (ho : Ev F.K to1 ds m1 (.rf l1) m1) (hi : Ev F.K ti1 ds m1 (.da (dI i1)) m1) (hj : m1[j1]? = some (l1, .ls (xs.map k))) (hs : setI xs i1 x.1 = some xs') (hm2 : m1.set j1 (l1, .ls (xs'.map k)) = m2)
    (ho2 : Ev F.K to2 ds m2 (.rf l2) m2) (hi2 : Ev F.K ti2 ds m2 (.da (dI i2)) m2) (hj2 : m2[j2]? = some (l2, .ls (ys.map k2))) (hs2 : setI ys i2 x.2 = some ys') (kk : Wp F tz D ds (m2.set j2 (l2, .ls (ys'.map k2)))) :
    Wp F (tSeq (tAsg tv (gTup F.K 2 (gCons (gSub to1 ti1 rSetL) (gCons (gSub to2 ti2 rSetL) gNil)))) tz) D ds m := fun σ H ⟨B, st, s, t, lo⟩ =>
  hv B H σ s st _ fun v B1 H1 t1 s1 d1 => by
    obtain ⟨T, x1, x2, rfl, h4, h5, h6⟩ := pair_of d1
    refine ⟨T, [x1, x2], rfl, SqT.of (s1.ext _ _ h4), rfl, x1, [x2], rfl, ?_⟩
    refine ho B1 H1 σ s1 (st_mono t1.ex st) _ fun o B2 H2 t2 s2 d2 => hi B2 H2 σ s2 (st_mono (t1.ex.trans t2.ex) st) _ fun y B3 H3 t3 s3 d3 => ?_
    obtain ⟨vs, jx, g1, g2, g3⟩ := set_ok s3 hj hs (dp_mono (t2.ex.trans t3.ex) h5)
    refine ⟨l1, vs, i1, jx, d2, int_of d3, g1, g2, x2, [], rfl, ?_⟩
    have s4 := s3.put hj g3
    have t4 := Tr.put s3 hj g3
    rw [hm2] at s4 t4
    have e4 := (t1.ex.trans t2.ex).trans t3.ex
    refine ho2 B3 _ σ s4 (st_mono e4 st) _ fun o2 B5 H5 t5 s5 d5 => hi2 B5 H5 σ s5 (st_mono (e4.trans t5.ex) st) _ fun y2 B6 H6 t6 s6 d6 => ?_
    obtain ⟨ws, jy, q1, q2, q3⟩ := set_ok s6 hj2 hs2 (dp_mono (((t2.ex.trans t3.ex).trans t5.ex).trans t6.ex) h6)
    refine ⟨l2, ws, i2, jy, d5, int_of d6, q1, q2, rfl, ?_⟩
    exact kk σ _ ⟨B6, st_mono ((e4.trans t5.ex).trans t6.ex) st, s6.put hj2 q3, ((((((t.trans t1).trans t2).trans t3).trans t4).trans t5).trans t6).trans (Tr.put s6 hj2 q3), lo.trans ((e4.trans t5.ex).trans t6.ex)⟩
/-- a, b, c = x, y, z -/
theorem wp_par3 {F : Fx} {D : Ends} {tz : TS} {t3 : TA} {i j l : Nat} {a b c : SD} (h : EvA F.K t3 ds m [a, b, c] m1) (k : Wp F tz D (((ds.set i a).set j b).set l c) m1) : Wp F (tSeq (tPar3 i j l t3) tz) D ds m := fun σ H ⟨B, st, s, t, lo⟩ =>
  h B H σ s st _ fun vs B2 H2 t2 s2 d => by
    match vs, d with
    | [u, v, w], ⟨d1, d2, d3, _⟩ => exact ⟨u, v, w, rfl, k _ H2 ⟨B2, st_set l (st_set j (st_set i (st_mono t2.ex st) (sl_of d1)) (sl_of d2)) (sl_of d3), s2, t.trans t2, lo.trans t2.ex⟩⟩
end
end FC
set_option maxHeartbeats 400000
/-! FG: plain pieces of the laws: colours, the nearest, dicts, pictures, what is drawn. -/
namespace FC
open PySem PySem.Spec PyProof.Rows L2 Evl
abbrev Col := List Int
/-- a colour of w places -/
def Good (w : Nat) (c : Col) : Prop := c.length = w ∧ ∀ x ∈ c, 0 ≤ x ∧ x < 1000
def ap (a b : Col) : Int := (List.map (fun p : Int × Int => (p.1 - p.2) * (p.1 - p.2)) (List.zip a b)).sum
theorem ap_comm (a b : Col) : ap a b = ap b a := by
  unfold ap
  congr 1
  induction a generalizing b with
  | nil => cases b <;> rfl
  | cons x a ih =>
    cases b with
    | nil => rfl
    | cons y b =>
      rw [List.zip_cons_cons, List.zip_cons_cons, List.map_cons, List.map_cons, ih b]
      congr 1
      show (x - y) * (x - y) = (y - x) * (y - x)
      rw [← Int.neg_mul_neg (x - y) (x - y), Int.neg_sub]
theorem sq_nn (x : Int) : 0 ≤ x * x := by
  rcases Int.le_total 0 x with h | h
  · exact Int.mul_nonneg h h
  · rw [← Int.neg_mul_neg]
    exact Int.mul_nonneg (by omega) (by omega)
theorem ap_nn (a b : Col) : 0 ≤ ap a b := by
  unfold ap
  generalize List.zip a b = l
  induction l with
  | nil => exact Int.le_refl _
  | cons p l ih =>
    rw [List.map_cons, List.sum_cons]
    have := sq_nn (p.1 - p.2)
    omega
theorem ap_self (a : Col) : ap a a = 0 := by
  induction a with
  | nil => rfl
  | cons x a ih =>
    have e : ap (x :: a) (x :: a) = (x - x) * (x - x) + ap a a := rfl
    rw [e, ih, Int.sub_self]
    rfl
theorem ap_zero : ∀ {a b : Col}, a.length = b.length → ap a b = 0 → a = b
  | [], [], _, _ => rfl
  | [], _ :: _, h, _ => by cases h
  | _ :: _, [], h, _ => by cases h
  | x :: a, y :: b, h, e => by
    have e1 : ap (x :: a) (y :: b) = (x - y) * (x - y) + ap a b := rfl
    rw [e1] at e
    have h1 := sq_nn (x - y)
    have h2 := ap_nn a b
    have h3 : (x - y) * (x - y) = 0 := by omega
    have h4 : ap a b = 0 := by omega
    have h5 : x - y = 0 := by
      rcases Int.mul_eq_zero.mp h3 with z | z <;> exact z
    rw [ap_zero (Nat.succ.inj h) h4, show x = y by omega]
def sq (pal : List Col) (c : Col) : List (Int × Int) := List.map (fun p : Int × Col => (ap p.2 c, p.1)) (enumI pal)
theorem mem_enumI {α : Type} {xs : List α} {p : Int × α} (h : p ∈ enumI xs) : 0 ≤ p.1 ∧ xs[p.1.toNat]? = some p.2 := by
  unfold enumI at h
  obtain ⟨q, hq, rfl⟩ := List.mem_map.mp h
  have := List.mem_zipIdx hq
  refine ⟨by omega, ?_⟩
  show xs[((q.2 : Nat) : Int).toNat]? = some q.1
  rw [Int.toNat_natCast]
  have h2 := List.getElem?_eq_getElem (l := xs) (i := q.2) (by omega)
  rw [h2, this.2.2]
  simp
def D (pal : List Col) (c : Col) (j : Int) : Int := ap (pal[j.toNat]?.getD []) c
theorem enumI_eq {α : Type} (d : α) (xs : List α) : enumI xs = (rng 0 xs.length).map fun j => (j, xs[j.toNat]?.getD d) := by
  refine List.ext_getElem? fun i => ?_
  have e1 : (enumI xs)[i]? = (xs.zipIdx.map fun p => ((p.2 : Int), p.1))[i]? := rfl
  rw [e1, List.getElem?_map, List.getElem?_zipIdx, List.getElem?_map]
  unfold rng
  rw [List.getElem?_map]
  by_cases h : i < xs.length
  · have e2 : (List.range ((xs.length : Int) - 0).toNat)[i]? = some i := by
      rw [List.getElem?_range (by omega)]
    rw [e2, List.getElem?_eq_getElem h]
    have e : (0 + (i : Int)).toNat = i := by omega
    show some (((0 + i : Nat) : Int), xs[i]) = some (0 + (i : Int), xs[(0 + (i : Int)).toNat]?.getD d)
    rw [e, List.getElem?_eq_getElem h]
    simp
  · have e2 : (List.range ((xs.length : Int) - 0).toNat)[i]? = none := List.getElem?_eq_none (by rw [List.length_range]; omega)
    rw [e2, List.getElem?_eq_none (by omega)]
    rfl
theorem sq_eq (pal : List Col) (c : Col) : sq pal c = (rng 0 pal.length).map fun j => (D pal c j, j) := by
  unfold sq
  rw [enumI_eq []]
  rw [List.map_map]
  rfl
theorem rng_pw (a b : Int) : (rng a b).Pairwise (· < ·) := by
  unfold rng
  rw [List.pairwise_map]
  exact List.pairwise_lt_range.imp fun h => by omega
def ne (pal : List Col) (c : Col) : Int := ((minL (EncO.lt (dP dI dI)) (sq pal c)).getD (0, 0)).2
theorem FM_map {α β : Type} {c : β → Int} {g : α → β} {l : List α} {m : β} (h : FM c (l.map g) m) : ∃ i, g i = m ∧ FM (fun x => c (g x)) l i := by
  obtain ⟨l1, l2, e, h1, h2⟩ := h
  obtain ⟨k1, k', rfl, e1, e2⟩ := List.map_eq_append_iff.mp e
  obtain ⟨i, k2, rfl, e3, e4⟩ := List.map_eq_cons_iff.mp e2
  refine ⟨i, e3, k1, k2, rfl, fun x hx => ?_, fun x hx => ?_⟩
  · show c (g i) < c (g x)
    rw [e3]
    exact h1 _ (e1 ▸ List.mem_map_of_mem hx)
  · show c (g i) ≤ c (g x)
    rw [e3]
    exact h2 _ (e4 ▸ List.mem_map_of_mem hx)
theorem near {pal : List Col} {c : Col} (hp : pal ≠ []) : minL (EncO.lt (dP dI dI)) (sq pal c) = some (D pal c (ne pal c), ne pal c) ∧ FM (D pal c) (rng 0 pal.length) (ne pal c) := by
  have hq : ∃ x xs, sq pal c = x :: xs := by
    cases e : sq pal c with
    | cons x xs => exact ⟨x, xs, rfl⟩
    | nil =>
      have h := congrArg List.length e
      rw [sq_eq, List.length_map, rng_len] at h
      have : pal.length ≠ 0 := fun z => hp (List.length_eq_zero_iff.mp z)
      have h' : (↑pal.length - 0 : Int).toNat = 0 := h
      omega
  obtain ⟨x, xs, hx⟩ := hq
  have pw : (sq pal c).Pairwise fun p q => p.2 < q.2 := by
    rw [sq_eq, List.pairwise_map]
    exact rng_pw _ _
  obtain ⟨m, h1, h2⟩ := fm_minL (c := Prod.fst) (lt := EncO.lt (dP dI dI)) (x := x) (xs := xs) fun q y r e z hz => by
    rw [hx, e] at pw
    have h3 : z.2 < y.2 := (List.pairwise_append.mp pw).2.2 z hz y List.mem_cons_self
    show ltP ltI ltI y z = _
    unfold ltP ltI
    by_cases e1 : y.1 = z.1
    · rw [if_pos e1]
      simp [e1]
      omega
    · rw [if_neg e1]
  rw [← hx] at h1 h2
  have e : ne pal c = m.2 := by
    unfold ne
    rw [h1]
    rfl
  rw [sq_eq] at h2
  obtain ⟨i, e2, h3⟩ := FM_map h2
  have e3 : m.2 = i := by rw [← e2]
  rw [h1, e, e3]
  exact ⟨by rw [e2], h3⟩
theorem ne_in {pal : List Col} (c : Col) (h0 : pal ≠ []) : 0 ≤ ne pal c ∧ ne pal c < pal.length := by
  have := mem_rng.mp (near (c := c) h0).2.mem
  omega
/-! ### dicts -/
section
variable {κ α : Type} [DecidableEq κ]
theorem dget_app (kvs : List (κ × α)) (k x : κ) (v : α) : dget (kvs ++ [(k, v)]) x = (dget kvs x).or (if k = x then some v else none) := by
  unfold dget
  rw [List.find?_append]
  cases e : kvs.find? fun kv => decide (kv.1 = x) with
  | some p => rfl
  | none =>
    by_cases h : k = x <;> simp [h]
theorem dget_none {kvs : List (κ × α)} {k : κ} (h : dget kvs k = none) : (kvs.any fun kv => decide (kv.1 = k)) = false := by
  unfold dget at h
  rw [Option.map_eq_none_iff, List.find?_eq_none] at h
  rw [List.any_eq_false]
  exact h
theorem dput_new {kvs : List (κ × α)} {k : κ} {v : α} (h : dget kvs k = none) : dput kvs k v = kvs ++ [(k, v)] := by
  unfold dput
  rw [dget_none h]
  rfl
theorem dput_len {kvs : List (κ × α)} {k : κ} {v : α} : (dput kvs k v).length ≤ kvs.length + 1 := by
  unfold dput
  split
  · rw [List.length_map]
    omega
  · rw [List.length_append]
    exact Nat.le_refl _
theorem dput_mem {kvs : List (κ × α)} {k : κ} {v : α} {p : κ × α} (h : p ∈ dput kvs k v) : p ∈ kvs ∨ p = (k, v) := by
  unfold dput at h
  split at h
  · obtain ⟨q, hq, rfl⟩ := List.mem_map.mp h
    by_cases e : q.1 = k
    · rw [if_pos e, e]
      exact .inr rfl
    · rw [if_neg e]
      exact .inl hq
  · rcases List.mem_append.mp h with h | h
    · exact .inl h
    · exact .inr (List.mem_singleton.mp h)
end
abbrev Pic := List (List Col)
def tot (pic : Pic) : Nat := (pic.map List.length).sum
theorem tot_app (a : Pic) (r : List Col) : tot (a ++ [r]) = tot a + r.length := by
  unfold tot
  rw [List.map_append, List.sum_append]
  rfl
theorem tot_split {pic : Pic} {q r : Pic} {x : List Col} (e : pic = q ++ x :: r) : tot q + x.length ≤ tot pic := by
  unfold tot
  rw [e, List.map_append, List.sum_append, List.map_cons, List.sum_cons]
  omega
structure Pal (w : Nat) (pal : List Col) : Prop where
  ok : ∀ a ∈ pal, Good w a
  ne : pal ≠ []
  len : pal.length ≤ 16000000
structure Pict (w : Nat) (pic : Pic) : Prop where
  ok : ∀ r ∈ pic, ∀ c ∈ r, Good w c
  tot : tot pic ≤ 16000000
  len : pic.length ≤ 16000000
def KnownOk (pal : List Col) (kn : List (Col × Int)) : Prop := ∀ k v, dget kn k = some v → v = ne pal k
def lostR (row beside : List Col) : Int := (List.map (fun p : Col × Col => ap p.1 p.2) (List.zip row beside)).sum
def T (pal : List Col) (c : Col) : Col := pal[(ne pal c).toNat]?.getD []
theorem T_mem {w : Nat} {pal : List Col} (hp : Pal w pal) (c : Col) : T pal c ∈ pal := by
  obtain ⟨h1, h2⟩ := ne_in c hp.ne
  unfold T
  rw [List.getElem?_eq_getElem (show (ne pal c).toNat < pal.length by omega)]
  exact List.getElem_mem _
theorem zip_map_self {α β : Type} (g : α → β) : ∀ xs : List α, List.zip xs (xs.map g) = xs.map fun x => (x, g x)
  | [] => rfl
  | x :: xs => by
    rw [List.map_cons, List.zip_cons_cons, zip_map_self g xs]
    rfl
theorem row_len {pic : Pic} (ht : tot pic ≤ 16000000) {r : List Col} (hr : r ∈ pic) : r.length ≤ 16000000 := by
  obtain ⟨a, b, e2⟩ := List.append_of_mem hr
  have := tot_split e2
  omega
def lossR (pal : List Col) (r : List Col) : Int := (r.map fun c => ap c (T pal c)).sum
def loss (pal : List Col) (pic : Pic) : Int := (pic.map (lossR pal)).sum
def wsum (f : Col → Int) (kvs : List (Col × Int)) : Int := (kvs.map fun p => p.2 * f p.1).sum
theorem wsum_app (f : Col → Int) (a : List (Col × Int)) (p : Col × Int) : wsum f (a ++ [p]) = wsum f a + p.2 * f p.1 := by
  unfold wsum
  rw [List.map_append, List.sum_append]
  show _ + (p.2 * f p.1 + 0) = _
  omega
theorem map_off (k : Col) (v : Int) : ∀ kvs : List (Col × Int), k ∉ kvs.map (·.1) → (kvs.map fun kv => if kv.1 = k then (kv.1, v) else kv) = kvs
  | [], _ => rfl
  | p :: kvs, h => by
    rw [List.map_cons, List.mem_cons, not_or] at h
    rw [List.map_cons, if_neg (fun e => h.1 e.symm), map_off k v kvs h.2]
theorem bump {f : Col → Int} {k : Col} : ∀ {kvs : List (Col × Int)}, (kvs.map (·.1)).Nodup → ((dput kvs k ((dget kvs k).getD 0 + 1)).map (·.1)).Nodup ∧ wsum f (dput kvs k ((dget kvs k).getD 0 + 1)) = wsum f kvs + f k := by
  intro kvs hn
  cases e : dget kvs k with
  | none =>
    rw [dput_new e, wsum_app]
    refine ⟨?_, by show _ + (0 + 1) * f k = _; omega⟩
    rw [List.map_append]
    refine List.nodup_append.mpr ⟨hn, List.nodup_cons.mpr ⟨fun h => (nomatch h), List.nodup_nil⟩, fun a ha b hb => ?_⟩
    have hb' : b = k := List.mem_singleton.mp hb
    subst hb'
    rintro rfl
    obtain ⟨p, hp, e2⟩ := List.mem_map.mp ha
    have := dget_none e
    rw [List.any_eq_false] at this
    exact this p hp (decide_eq_true e2)
  | some v =>
    have ha : (kvs.any fun kv => decide (kv.1 = k)) = true := by
      unfold dget at e
      obtain ⟨p, hp, _⟩ := Option.map_eq_some_iff.mp e
      exact List.any_eq_true.mpr ⟨p, List.mem_of_find?_eq_some hp, List.find?_some (p := fun kv : Col × Int => decide (kv.1 = k)) hp⟩
    have hd : dput kvs k (v + 1) = kvs.map fun kv => if kv.1 = k then (kv.1, v + 1) else kv := by
      unfold dput
      rw [if_pos ha]
    show ((dput kvs k (v + 1)).map (·.1)).Nodup ∧ wsum f (dput kvs k (v + 1)) = _
    rw [hd]
    refine ⟨?_, ?_⟩
    · rw [List.map_map]
      have e2 : ((fun x : Col × Int => x.1) ∘ fun kv : Col × Int => if kv.1 = k then (kv.1, v + 1) else kv) = fun x => x.1 := by
        funext kv
        show (if kv.1 = k then (kv.1, v + 1) else kv).1 = kv.1
        split <;> rfl
      rw [e2]
      exact hn
    · clear hd ha
      induction kvs with
      | nil => cases e
      | cons p kvs ih =>
        rw [List.map_cons, List.nodup_cons] at hn
        rw [List.map_cons]
        by_cases h : p.1 = k
        · rw [if_pos h, map_off k _ kvs (h ▸ hn.1)]
          have hv : v = p.2 := by
            have e3 : dget (p :: kvs) k = some p.2 := by
              unfold dget
              rw [List.find?_cons_of_pos (by simpa using h)]
              rfl
            rw [e3] at e
            exact (Option.some.inj e).symm
          show (v + 1) * f p.1 + wsum f kvs = p.2 * f p.1 + wsum f kvs + f k
          rw [hv, h, Int.add_mul, Int.one_mul]
          omega
        · rw [if_neg h]
          have e3 : dget kvs k = some v := by
            unfold dget at e ⊢
            rw [List.find?_cons_of_neg (by simpa using h)] at e
            exact e
          have := ih hn.2 e3
          show p.2 * f p.1 + wsum f (kvs.map _) = p.2 * f p.1 + wsum f kvs + f k
          rw [this]
          omega
def fsum (f : Col → Int) (pic : Pic) : Int := (pic.map fun r => (r.map f).sum).sum
structure Cnt (pic : Pic) (n : Nat) (kvs : List (Col × Int)) : Prop where
  nd : (kvs.map (·.1)).Nodup
  len : kvs.length ≤ n
  val : ∀ p ∈ kvs, 0 ≤ p.2 ∧ p.2 ≤ n
  key : ∀ p ∈ kvs, ∃ r ∈ pic, p.1 ∈ r
  some : 0 < n → kvs ≠ []
theorem dget_mem {kvs : List (Col × Int)} {k : Col} {v : Int} (h : dget kvs k = some v) : (k, v) ∈ kvs := by
  unfold dget at h
  obtain ⟨p, hp, e⟩ := Option.map_eq_some_iff.mp h
  have h1 := List.mem_of_find?_eq_some hp
  have h2 : p.1 = k := of_decide_eq_true (List.find?_some (p := fun kv : Col × Int => decide (kv.1 = k)) hp)
  rw [← h2, ← e]
  exact h1
theorem Cnt.step {pic : Pic} {n : Nat} {kvs : List (Col × Int)} (h : Cnt pic n kvs) {c : Col} (hc : ∃ r ∈ pic, c ∈ r) : Cnt pic (n + 1) (dput kvs c ((dget kvs c).getD 0 + 1)) := by
  refine ⟨(bump (f := fun _ => 0) h.nd).1, Nat.le_trans dput_len (Nat.succ_le_succ h.len), fun p hp => ?_, fun p hp => ?_, fun _ e => ?_⟩
  · rcases dput_mem hp with hp | rfl
    · have := h.val p hp
      omega
    · show 0 ≤ (dget kvs c).getD 0 + 1 ∧ (dget kvs c).getD 0 + 1 ≤ ((n + 1 : Nat) : Int)
      cases e : dget kvs c with
      | none =>
        show 0 ≤ (0 : Int) + 1 ∧ (0 : Int) + 1 ≤ ((n + 1 : Nat) : Int)
        omega
      | some v =>
        have h2 := h.val _ (dget_mem e)
        show 0 ≤ v + 1 ∧ v + 1 ≤ ((n + 1 : Nat) : Int)
        have h3 : 0 ≤ v ∧ v ≤ n := h2
        omega
  · rcases dput_mem hp with hp | rfl
    · exact h.key p hp
    · exact hc
  · unfold dput at e
    split at e
    · have h1 := List.map_eq_nil_iff.mp e
      subst h1
      simp at *
    · simp at e
theorem perm_sum {a b : List Int} (h : a.Perm b) : a.sum = b.sum := by
  induction h with
  | nil => rfl
  | cons x _ ih => rw [List.sum_cons, List.sum_cons, ih]
  | swap x y l =>
    rw [List.sum_cons, List.sum_cons, List.sum_cons, List.sum_cons]
    omega
  | trans _ _ i1 i2 => exact i1.trans i2
def ef (pal : List Col) (c : Col) : Int := ap c (T pal c)
theorem pict1 {w : Nat} {c : Col} (hc : Good w c) : Pict w [[c]] := ⟨fun r hr x hx => by
  rw [List.mem_singleton.mp hr] at hx
  rw [List.mem_singleton.mp hx]
  exact hc, by show 1 + 0 ≤ 16000000; omega, by show 1 ≤ 16000000; omega⟩
theorem T_self {w : Nat} {used : List Col} (hp : Pal w used) {c : Col} (hc : c ∈ used) : T used c = c := by
  have hn := near (pal := used) (c := c) hp.ne
  obtain ⟨i, hi⟩ := List.mem_iff_getElem?.mp hc
  have hl : i < used.length := (List.getElem?_eq_some_iff.mp hi).1
  have h1 := hn.2.le (x := (i : Int)) (mem_rng.mpr ⟨by omega, by omega⟩)
  have e1 : D used c (i : Int) = 0 := by
    unfold D
    rw [Int.toNat_natCast, hi]
    exact ap_self c
  have e2 : D used c (ne used c) = ap (T used c) c := rfl
  have h2 := ap_nn (T used c) c
  rw [e1, e2] at h1
  refine ap_zero ?_ (by omega)
  rw [(hp.ok _ (T_mem hp c)).1, (hp.ok _ hc).1]
def Lk (n : Nat) (left : List Int) : Prop := ∃ a b c : Int, left = [a, b, c] ∧ 0 ≤ c ∧ c ≤ n
theorem Lk.mono {n m : Nat} {l : List Int} (h : Lk n l) (e : n ≤ m) : Lk m l := by
  obtain ⟨a, b, c, h1, h2, h3⟩ := h
  exact ⟨a, b, c, h1, h2, by omega⟩
def Kind (k : Int × Int) : Prop := (1 ≤ k.1 ∧ k.1 ≤ 5) ∧ 1 ≤ k.2 ∧ k.2 ≤ 1000
theorem b2_ix (b : Bool) : 0 ≤ b2 b ∧ b2 b < 2 := by
  cases b <;> decide
theorem tot_le {w : Nat} : ∀ {pic : Pic}, (∀ r ∈ pic, r.length = w) → tot pic = pic.length * w
  | [], _ => by simp [tot]
  | r :: pic, h => by
    have ih := tot_le (pic := pic) fun x hx => h x (List.mem_cons_of_mem _ hx)
    have e : tot (r :: pic) = r.length + tot pic := rfl
    rw [e, ih, h r List.mem_cons_self, List.length_cons, Nat.add_mul]
    omega
/-! ### the least, sorted ones -/
theorem minI_of {xs : List Int} {m : Int} (hm : m ∈ xs) (hl : ∀ x ∈ xs, m ≤ x) : minL ltI xs = some m := by
  cases xs with
  | nil => cases hm
  | cons x xs =>
    obtain ⟨m', h1, h2⟩ := fm_minL (c := id) (lt := ltI) (x := x) (xs := xs) (fun q y r e z hz => rfl)
    rw [h1]
    congr 1
    have a1 : m' ≤ m := h2.le hm
    have a2 : m ≤ m' := hl _ h2.mem
    omega
theorem T_le {pal : List Col} (hp : pal ≠ []) (c : Col) {a : Col} (ha : a ∈ pal) : ap c (T pal c) ≤ ap c a := by
  obtain ⟨i, hi⟩ := List.mem_iff_getElem?.mp ha
  have hl : i < pal.length := (List.getElem?_eq_some_iff.mp hi).1
  have h1 := (near (pal := pal) (c := c) hp).2.le (x := (i : Int)) (mem_rng.mpr ⟨by omega, by omega⟩)
  have e1 : D pal c (i : Int) = ap a c := by
    unfold D
    rw [Int.toNat_natCast, hi]
    rfl
  have e2 : D pal c (ne pal c) = ap (T pal c) c := rfl
  rw [e1, e2, ap_comm a c, ap_comm (T pal c) c] at h1
  exact h1
section
variable {α : Type} {lt : α → α → Bool}
theorem fold_least [T : Tot lt] : ∀ (xs : List α) (x : α), (xs.foldl (fun a y => if lt y a = true then y else a) x) ∈ x :: xs ∧ ∀ y ∈ x :: xs, lt y (xs.foldl (fun a y => if lt y a = true then y else a) x) = false
  | [], x => ⟨List.mem_cons_self, fun y hy => by rw [List.mem_singleton.mp hy]; exact T.irr _⟩
  | y :: xs, x => by
    rw [List.foldl_cons]
    obtain ⟨h1, h2⟩ := fold_least xs (if lt y x = true then y else x)
    by_cases h : lt y x = true
    · rw [if_pos h] at h1 h2 ⊢
      refine ⟨List.mem_cons_of_mem _ h1, fun z hz => ?_⟩
      rcases List.mem_cons.mp hz with rfl | hz
      · exact T.ntr (h2 y List.mem_cons_self) (T.asym h)
      · exact h2 z hz
    · rw [if_neg h] at h1 h2 ⊢
      refine ⟨?_, fun z hz => ?_⟩
      · rcases List.mem_cons.mp h1 with e | h1
        · rw [e]; exact List.mem_cons_self
        · exact List.mem_cons_of_mem _ (List.mem_cons_of_mem _ h1)
      · rcases List.mem_cons.mp hz with rfl | hz
        · exact h2 z List.mem_cons_self
        · rcases List.mem_cons.mp hz with rfl | hz
          · exact T.ntr (h2 x List.mem_cons_self) (by simpa using h)
          · exact h2 z (List.mem_cons_of_mem _ hz)
theorem srt_nil : srt lt ([] : List α) = [] := List.mergeSort_nil
theorem minL_head [T : Tot lt] (xs : List α) : minL lt xs = (srt lt xs).head? := by
  cases xs with
  | nil =>
    unfold srt
    rw [List.mergeSort_nil]
    rfl
  | cons x xs =>
    obtain ⟨h1, h2⟩ := fold_least (lt := lt) xs x
    have pw := srt_pw (lt := lt) (x :: xs)
    have pm := srt_perm (lt := lt) (x :: xs)
    show some (xs.foldl (fun a y => if lt y a = true then y else a) x) = _
    generalize (xs.foldl (fun a y => if lt y a = true then y else a) x) = r at h1 h2
    cases e : srt lt (x :: xs) with
    | nil =>
      rw [e] at pm
      have := pm.length_eq
      cases this
    | cons h t =>
      rw [e] at pm pw
      have m1 : h ∈ x :: xs := pm.mem_iff.mp List.mem_cons_self
      have m2 : r ∈ h :: t := pm.mem_iff.mpr h1
      have l1 : lt r h = false := by
        rcases List.mem_cons.mp m2 with e | m2
        · rw [e]; exact T.irr _
        · exact (List.pairwise_cons.mp pw).1 r m2
      exact congrArg some (T.tri r h l1 (h2 h m1))
theorem mapS_const {S β : Type} {step : S → α → Option (β × S)} {s : S} {b : β} : ∀ {xs : List α}, (∀ x ∈ xs, step s x = some (b, s)) → mapS step s xs = some (xs.map fun _ => b, s)
  | [], _ => rfl
  | x :: xs, h => by
    show (step s x).bind _ = _
    rw [h x List.mem_cons_self]
    show (mapS step s xs).bind _ = _
    rw [mapS_const fun y hy => h y (List.mem_cons_of_mem _ hy)]
    rfl
end
section
variable {κ α : Type} [DecidableEq κ]
theorem dget_of_mem : ∀ {kvs : List (κ × α)} {p : κ × α}, (kvs.map (·.1)).Nodup → p ∈ kvs → dget kvs p.1 = some p.2
  | q :: kvs, p, hn, hp => by
    rw [List.map_cons, List.nodup_cons] at hn
    unfold dget
    rcases List.mem_cons.mp hp with rfl | hp
    · rw [List.find?_cons_of_pos (by simp)]
      rfl
    · have hne : q.1 ≠ p.1 := fun e => hn.1 (e ▸ List.mem_map_of_mem hp)
      rw [List.find?_cons_of_neg (by simpa using hne)]
      exact dget_of_mem hn.2 hp
theorem dget_memG {kvs : List (κ × α)} {k : κ} {v : α} (h : dget kvs k = some v) : (k, v) ∈ kvs := by
  unfold dget at h
  obtain ⟨p, hp, e⟩ := Option.map_eq_some_iff.mp h
  have h1 := List.mem_of_find?_eq_some hp
  have h2 : p.1 = k := of_decide_eq_true (List.find?_some (p := fun kv : κ × α => decide (kv.1 = k)) hp)
  rw [← h2, ← e]
  exact h1
theorem dget_not {kvs : List (κ × α)} {k : κ} (h : ∀ p ∈ kvs, p.1 ≠ k) : dget kvs k = none := by
  cases e : dget kvs k with
  | none => rfl
  | some v => exact absurd rfl (h _ (dget_memG e))
theorem dget_key {kvs : List (κ × α)} {k : κ} (h : dget kvs k = none) : k ∉ kvs.map (·.1) := fun hk => by
  obtain ⟨p, hp, e⟩ := List.mem_map.mp hk
  have := dget_none h
  rw [List.any_eq_false] at this
  exact this p hp (decide_eq_true e)
theorem dget_drop (kvs : List (κ × α)) (k : κ) : dget (ddrop kvs k) k = none := dget_not fun p hp => by
  unfold ddrop at hp
  have := (List.mem_filter.mp hp).2
  simpa using this
theorem mem_drop {kvs : List (κ × α)} {k : κ} {p : κ × α} (h : p ∈ ddrop kvs k) : p ∈ kvs := (List.mem_filter.mp h).1
theorem drop_len (kvs : List (κ × α)) (k : κ) : (ddrop kvs k).length ≤ kvs.length := List.length_filter_le _ _
theorem drop_nd {kvs : List (κ × α)} {k : κ} (h : (kvs.map (·.1)).Nodup) : ((ddrop kvs k).map (·.1)).Nodup := h.sublist ((List.filter_sublist).map _)
theorem new_nd {kvs : List (κ × α)} {k : κ} {v : α} (h : (kvs.map (·.1)).Nodup) (hk : dget kvs k = none) : ((kvs ++ [(k, v)]).map (·.1)).Nodup := by
  rw [List.map_append]
  refine List.nodup_append.mpr ⟨h, List.nodup_cons.mpr ⟨fun h => (nomatch h), List.nodup_nil⟩, fun a ha b hb => ?_⟩
  have hb' : b = k := List.mem_singleton.mp hb
  subst hb'
  rintro rfl
  exact dget_key hk ha
theorem dget_new {kvs : List (κ × α)} {k : κ} {v : α} (hk : dget kvs k = none) : dget (dput kvs k v) k = some v := by
  rw [dput_new hk, dget_app, hk, if_pos rfl]
  rfl
end
/-! ### alike -/
theorem sam_eq {n : Nat} {d : PyData} (h : SamOk n d) : samG (n + 1) d d = some true := by
  unfold samG
  rw [if_pos ⟨rfl, h, Nat.succ_pos n⟩]
theorem sam_none (n : Nat) : SamOk n .none := by cases n <;> exact True.intro
theorem sam_bool (n : Nat) (b : Bool) : SamOk n (.bool b) := by cases n <;> exact True.intro
theorem sam_int (n : Nat) (i : Int) : SamOk n (.int i) := by cases n <;> exact True.intro
theorem sam_str (n : Nat) (x : Str) : SamOk n (.str x) := by cases n <;> exact True.intro
theorem sam_list {n : Nat} {xs : List PyData} (h : xs.length ≤ 16000000) (hx : ∀ x ∈ xs, SamOk n x) : SamOk (n + 1) (.list xs) := ⟨h, hx⟩
theorem sam_tup {n : Nat} {xs : List PyData} (h : xs.length ≤ 16000000) (hx : ∀ x ∈ xs, SamOk n x) : SamOk (n + 1) (.tuple xs) := ⟨h, hx⟩
theorem sam_dL {α : Type} {f : α → PyData} {n : Nat} {xs : List α} (h : xs.length ≤ 16000000) (hx : ∀ x ∈ xs, SamOk n (f x)) : SamOk (n + 1) (dL f xs) := sam_list (by rw [List.length_map]; exact h) fun x hx' => by
  obtain ⟨y, hy, rfl⟩ := List.mem_map.mp hx'
  exact hx y hy
theorem sam_dU {α : Type} {f : α → PyData} {n : Nat} {xs : List α} (h : xs.length ≤ 16000000) (hx : ∀ x ∈ xs, SamOk n (f x)) : SamOk (n + 1) (dU f xs) := sam_tup (by rw [List.length_map]; exact h) fun x hx' => by
  obtain ⟨y, hy, rfl⟩ := List.mem_map.mp hx'
  exact hx y hy
theorem sam_dP {α β : Type} {f : α → PyData} {g : β → PyData} {n : Nat} {p : α × β} (h1 : SamOk n (f p.1)) (h2 : SamOk n (g p.2)) : SamOk (n + 1) (dP f g p) := sam_tup (show 2 ≤ 16000000 by omega) fun x hx => by
  rcases List.mem_cons.mp hx with rfl | hx
  · exact h1
  · rw [List.mem_singleton.mp hx]
    exact h2
theorem sam_dO {α : Type} {f : α → PyData} {n : Nat} {o : Option α} (h : ∀ x, o = some x → SamOk n (f x)) : SamOk n (dO f o) := by
  cases o with
  | none => exact sam_none n
  | some x => exact h x rfl
theorem sam_pal {n w : Nat} {pal : List Col} (hw : w ≤ 16000000) (h : Pal w pal) : SamOk (n + 2) (dL (dU dI) pal) := sam_dL h.len fun c hc => sam_dU (by rw [(h.ok c hc).1]; exact hw) fun i _ => sam_int n i
end FC
set_option maxHeartbeats 400000
/-! FM: masks, the least costs by how many are left. Plain Lean. -/
namespace FC
open PySem PySem.Spec PyProof.Rows L2 Evl
theorem filO_of {α β : Type} {test : α → Option Bool} {step : α → Option β} {t : α → Bool} {g : α → β} : ∀ {xs : List α}, (∀ x ∈ xs, test x = some (t x)) → (∀ x ∈ xs, t x = true → step x = some (g x)) → filO test step xs = some ((xs.filter t).map g)
  | [], _, _ => rfl
  | x :: xs, h1, h2 => by
    show (test x).bind _ = _
    rw [h1 x List.mem_cons_self]
    show cond (t x) _ _ = _
    have ih := filO_of (test := test) (step := step) (t := t) (g := g) (xs := xs) (fun y hy => h1 y (List.mem_cons_of_mem _ hy)) fun y hy => h2 y (List.mem_cons_of_mem _ hy)
    cases e : t x with
    | true =>
      show (step x).bind _ = _
      rw [h2 x List.mem_cons_self e]
      show (filO test step xs).bind _ = _
      rw [ih, List.filter_cons_of_pos e]
      rfl
    | false =>
      show filO test step xs = _
      rw [ih, List.filter_cons_of_neg (by rw [e]; decide)]
def bits (m k : Nat) : Nat := ((List.range m).filter fun j => k.testBit j).length
theorem bits_succ (m k : Nat) : bits (m + 1) k = k % 2 + bits m (k / 2) := by
  unfold bits
  rw [List.range_succ_eq_map, List.filter_cons]
  have e2 : (((List.range m).map Nat.succ).filter fun j => k.testBit j).length = ((List.range m).filter fun j => (k / 2).testBit j).length := by
    rw [List.filter_map, List.length_map]
    congr 1
    refine List.filter_congr fun j _ => ?_
    exact Nat.testBit_succ k j
  have e0 : k.testBit 0 = decide (k % 2 = 1) := by rw [Nat.testBit_eq_decide_div_mod_eq, Nat.pow_zero, Nat.div_one]
  rw [e0]
  by_cases h : k % 2 = 1
  · rw [if_pos (decide_eq_true h), List.length_cons, e2]
    omega
  · rw [if_neg (by simpa using h), e2]
    omega
theorem bits_le (m k : Nat) : bits m k ≤ m := by
  unfold bits
  have := List.length_filter_le (fun j => k.testBit j) (List.range m)
  rw [List.length_range] at this
  exact this
theorem bits_zero : ∀ m : Nat, bits m 0 = 0 := fun m => by
  unfold bits
  rw [List.length_eq_zero_iff, List.filter_eq_nil_iff]
  intro j _
  rw [Nat.zero_testBit]
  decide
theorem bit_and {k : Nat} {j : Nat} : Builtin.bitAnd ((k : Int) / 2 ^ j) 1 = if k.testBit j = true then 1 else 0 := by
  have h := Bits.bitAnd_mask (x := (k : Int) / 2 ^ j) 1 (Int.ediv_nonneg (by omega) (by exact Int.le_of_lt (Int.pow_pos (by decide))))
  have e1 : (2 : Int) ^ 1 - 1 = 1 := by decide
  rw [e1] at h
  rw [h]
  have e2 : (k : Int) / 2 ^ j = ((k / 2 ^ j : Nat) : Int) := by
    rw [Int.natCast_ediv, Int.natCast_pow]
    rfl
  rw [e2, Nat.testBit_eq_decide_div_mod_eq]
  by_cases hk : k / 2 ^ j % 2 = 1
  · rw [if_pos (decide_eq_true hk)]
    omega
  · rw [if_neg (by simpa using hk)]
    omega
theorem bit_or (k j : Nat) : Builtin.bitOr (k : Int) (1 * 2 ^ j) = ((k ||| 2 ^ j : Nat) : Int) := by
  have e : (1 : Int) * 2 ^ j = ((2 ^ j : Nat) : Int) := by rw [Int.one_mul, Int.natCast_pow]; rfl
  rw [e, Bits.bitOr_pp (Int.natCast_nonneg _) (Int.natCast_nonneg _), Int.toNat_natCast, Int.toNat_natCast]
theorem shl_one (m : Nat) (h : m ≤ 1000) : shlG 1 (m : Int) = some ((2 ^ m : Nat) : Int) := by
  unfold shlG
  rw [if_pos ⟨by omega, by omega, by decide⟩]
  congr 1
  rw [Int.one_mul, Int.toNat_natCast, Int.natCast_pow]
  rfl
theorem shl_j {j : Int} (h0 : 0 ≤ j) (h : j ≤ 1000) : shlG 1 j = some (1 * 2 ^ j.toNat) := by
  unfold shlG
  rw [if_pos ⟨h0, by omega, by decide⟩]
theorem shr_j {i j : Int} (h0 : 0 ≤ j) : shrG i j = some (i / 2 ^ j.toNat) := by
  unfold shrG
  rw [if_pos h0]
theorem pow_le20 {m : Nat} (h : m ≤ 20) : 2 ^ m ≤ 1048576 := Nat.le_trans (Nat.pow_le_pow_right (by omega) h) (by decide)
/-! ### the costs -/
def frees (m k : Nat) : List Int := (rng 0 m).filter fun j => !k.testBit j.toNat
theorem mem_frees {m k : Nat} {j : Int} : j ∈ frees m k ↔ (0 ≤ j ∧ j < m) ∧ k.testBit j.toNat = false := by
  unfold frees
  rw [List.mem_filter, mem_rng, Bool.not_eq_true']
theorem frees_len (m k : Nat) : (frees m k).length ≤ m := by
  unfold frees
  have := List.length_filter_le (fun j : Int => !k.testBit j.toNat) (rng 0 m)
  rw [rng_len] at this
  omega
theorem or_lt {m k : Nat} {j : Int} (hk : k < 2 ^ m) (hj : j < m) (h0 : 0 ≤ j) : k ||| 2 ^ j.toNat < 2 ^ m := Nat.or_lt_two_pow hk (Nat.pow_lt_pow_right (by omega) (by omega))
theorem bits_rng (m k : Nat) : ((rng 0 m).filter fun j => k.testBit j.toNat).length = bits m k := by
  unfold rng bits
  rw [List.filter_map, List.length_map]
  have e : ((m : Int) - 0).toNat = m := by omega
  rw [e]
  congr 1
  refine List.filter_congr fun j _ => ?_
  show k.testBit (0 + (j : Int)).toNat = k.testBit j
  congr 1
  omega
def leastOf (l : List Int) : Int := (minL ltI l).getD 0
theorem min_leastOf {l : List Int} (h : l ≠ []) : minL ltI l = some (leastOf l) := by
  cases l with
  | nil => exact absurd rfl h
  | cons x xs => rfl
def opts (row : List Int) (beh : Nat → Int) (price : Int) (m k : Nat) : List Int := (frees m k).map (fun j => (row[j.toNat]?.getD 0) + beh (k ||| 2 ^ j.toNat)) ++ [price + beh k]
theorem opts_ne (row : List Int) (beh : Nat → Int) (price : Int) (m k : Nat) : opts row beh price m k ≠ [] := by
  unfold opts
  simp
/-- the least cost of what is left: the rows of squares, the mask of what is taken -/
def V (price : Int) (m : Nat) : List (List Int) → Nat → Int
  | [], k => price * ((m : Int) - (bits m k : Int))
  | row :: rest, k => leastOf (opts row (V price m rest) price m k)
def tabR (m : Nat) (f : Nat → Int) : List Int := (List.range (2 ^ m)).map f
theorem tab_len (m : Nat) (f : Nat → Int) : (tabR m f).length = 2 ^ m := by
  unfold tabR
  rw [List.length_map, List.length_range]
theorem tab_get {m k : Nat} (f : Nat → Int) (h : k < 2 ^ m) : getI (tabR m f) (k : Int) = some (f k) := by
  refine getI_nat (by omega) ?_
  unfold tabR
  rw [Int.toNat_natCast, List.getElem?_map, List.getElem?_range h]
  rfl
def tabs (price : Int) (m : Nat) : List (List Int) → List (List Int)
  | [] => [tabR m (V price m [])]
  | row :: rest => tabR m (V price m (row :: rest)) :: tabs price m rest
theorem tabs_head (price : Int) (m : Nat) (sqs : List (List Int)) : ∃ t, tabs price m sqs = tabR m (V price m sqs) :: t := by
  cases sqs with
  | nil => exact ⟨[], rfl⟩
  | cons r rest => exact ⟨_, rfl⟩
theorem tabs_len (price : Int) (m : Nat) : ∀ sqs : List (List Int), (tabs price m sqs).length = sqs.length + 1
  | [] => rfl
  | r :: rest => by
    show (tabs price m rest).length + 1 = _
    rw [tabs_len price m rest]
    rfl
theorem tabs_at (price : Int) (m : Nat) : ∀ (sqs : List (List Int)) (i : Nat), i ≤ sqs.length → (tabs price m sqs)[i]? = some (tabR m (V price m (sqs.drop i)))
  | sqs, 0, _ => by
    obtain ⟨t, e⟩ := tabs_head price m sqs
    rw [e]
    rfl
  | [], i + 1, h => by simp at h
  | r :: rest, i + 1, h => by
    show (tabs price m rest)[i]? = _
    rw [tabs_at price m rest i (by simpa using h)]
    rfl
def sqsOf (one other : List Col) : List (List Int) := one.map fun c => other.map fun d => ap c d
theorem sqs_at {one other : List Col} {i : Int} (h0 : 0 ≤ i) (h1 : i < one.length) : ∃ row, getI (sqsOf one other) i = some row ∧ (sqsOf one other)[i.toNat]? = some row ∧ row.length = other.length := by
  have hl : i.toNat < one.length := by omega
  refine ⟨other.map fun d => ap (one[i.toNat]) d, ?_, ?_, List.length_map _⟩
  · refine getI_nat h0 ?_
    unfold sqsOf
    rw [List.getElem?_map, List.getElem?_eq_getElem hl]
    rfl
  · unfold sqsOf
    rw [List.getElem?_map, List.getElem?_eq_getElem hl]
    rfl
theorem get_row {row : List Int} {j : Int} (h0 : 0 ≤ j) (h1 : j < row.length) : getI row j = some (row[j.toNat]?.getD 0) := by
  have hl : j.toNat < row.length := by omega
  rw [getI_nat h0 (List.getElem?_eq_getElem hl), List.getElem?_eq_getElem hl]
  rfl
/-- the first partner, the first pairs -/
def partV (price : Int) (m : Nat) (row : List Int) (rest : List (List Int)) (k : Nat) : Option Int := (frees m k).find? fun j => decide ((row[j.toNat]?.getD 0) + V price m rest (k ||| 2 ^ j.toNat) = V price m (row :: rest) k)
def firstP (price : Int) (m : Nat) : List (List Int) → Int → Nat → List (Int × Int)
  | [], _, _ => []
  | row :: rest, i, k => if price * (((rest.length : Int) + 1 + m) - bits m k) = V price m (row :: rest) k then [] else
    match partV price m row rest k with
    | none => firstP price m rest (i + 1) k
    | some j => (i, j) :: firstP price m rest (i + 1) (k ||| 2 ^ j.toNat)
theorem forC_find {S R α : Type} {step : S → α → Option (Ctl S R)} {s : S} {t : α → Bool} {r : α → R} : ∀ {xs : List α}, (∀ x ∈ xs, step s x = some (cond (t x) (Ctl.rt (r x)) (Ctl.nx s))) → forC step s xs = some (match xs.find? t with | none => Ctl.nx s | some x => Ctl.rt (r x))
  | [], _ => rfl
  | x :: xs, h => by
    show (step s x).bind _ = _
    rw [h x List.mem_cons_self]
    rw [List.find?_cons]
    cases e : t x with
    | true => rfl
    | false =>
      show forC step s xs = _
      exact forC_find fun y hy => h y (List.mem_cons_of_mem _ hy)
theorem rng_nat (m : Nat) : rng 0 ((2 ^ m : Nat) : Int) = (List.range (2 ^ m)).map fun (i : Nat) => (i : Int) := by
  unfold rng
  have e : (((2 ^ m : Nat) : Int) - 0).toNat = 2 ^ m := by rw [Int.sub_zero, Int.toNat_natCast]
  rw [e]
  refine List.map_congr_left fun i _ => ?_
  omega
theorem rng_cons {a b : Int} (h : a < b) : rng a b = a :: rng (a + 1) b := by
  unfold rng
  have e : (b - a).toNat = (b - (a + 1)).toNat + 1 := by omega
  rw [e, List.range_succ_eq_map, List.map_cons, List.map_map]
  congr 1
  · omega
  · refine List.map_congr_left fun i _ => ?_
    show a + ((i + 1 : Nat) : Int) = a + 1 + (i : Int)
    omega
theorem rng_nil {a b : Int} (h : b ≤ a) : rng a b = [] := by
  unfold rng
  have e : (b - a).toNat = 0 := by omega
  rw [e]
  rfl
theorem rng_snoc {a b : Int} (h : a ≤ b) : rng a (b + 1) = rng a b ++ [b] := by
  unfold rng
  have e : (b + 1 - a).toNat = (b - a).toNat + 1 := by omega
  rw [e, List.range_succ, List.map_append]
  congr 1
  show [a + (((b - a).toNat : Nat) : Int)] = [b]
  congr 1
  omega
theorem fdiv_two (k : Int) : fdivG k 2 = some (k / 2) := by
  unfold fdivG
  rw [if_pos (.inr ⟨by decide, by decide⟩)]
theorem mod_two (k : Int) : modG k 2 = some (k % 2) := by
  unfold modG
  rw [if_pos (by decide)]
theorem whiF_step {S : Type} {cond : S → Option Bool} {step : S → Option S} {n : Nat} {s s' : S} (hc : cond s = some true) (hs : step s = some s') : whiF cond step (n + 1) s = whiF cond step n s' := by
  show (cond s).bind _ = _
  rw [hc]
  show (step s).bind _ = _
  rw [hs]
  rfl
theorem whiF_stop {S : Type} {cond : S → Option Bool} {step : S → Option S} {n : Nat} {s : S} (hc : cond s = some false) : whiF cond step (n + 1) s = some s := by
  show (cond s).bind _ = _
  rw [hc]
  rfl
/-- the loop that makes the first pairs -/
def fpCtl (price : Int) (m : Nat) (sqs : List (List Int)) (i k : Nat) (acc : List (Int × Int)) (row : List Int) : Ctl (Int × List (Int × Int)) (List (Int × Int)) :=
  if price * (((sqs.length : Int) - i + m) - bits m k) = V price m (row :: sqs.drop (i + 1)) k then .rt acc else
    match partV price m row (sqs.drop (i + 1)) k with
    | none => .nx ((k : Int), acc)
    | some j => .nx (((k ||| 2 ^ j.toNat : Nat) : Int), acc ++ [((i : Int), j)])
theorem fp_loop {m : Nat} {price : Int} {sqs : List (List Int)} {step : Int × List (Int × Int) → Int → Option (Ctl (Int × List (Int × Int)) (List (Int × Int)))}
    (hs : ∀ (i k : Nat) (acc : List (Int × Int)) (row : List Int), i < sqs.length → sqs[i]? = some row → k < 2 ^ m → acc.length ≤ i → step ((k : Int), acc) (i : Int) = some (fpCtl price m sqs i k acc row)) :
    ∀ (d i : Nat) (k : Nat) (acc : List (Int × Int)), i + d = sqs.length → k < 2 ^ m → acc.length ≤ i → Ok (forC step ((k : Int), acc) (rng (i : Int) (sqs.length : Int))) fun c => (match c with | .nx s => s.2 | .bk s => [] | .rt r => r) = acc ++ firstP price m (sqs.drop i) (i : Int) k ∧ ∀ s, c ≠ .bk s
  | 0, i, k, acc, hi, hk, ha => by
    rw [rng_nil (by omega), List.drop_of_length_le (by omega)]
    exact Ok.mk ⟨by show acc = acc ++ []; rw [List.append_nil], fun s e => nomatch e⟩
  | d + 1, i, k, acc, hi, hk, ha => by
    have hlt : i < sqs.length := by omega
    have h1 := hs i k acc sqs[i] hlt (List.getElem?_eq_getElem hlt) hk ha
    rw [rng_cons (by omega), List.drop_eq_getElem_cons hlt]
    have hdl : (sqs.drop (i + 1)).length = d := by rw [List.length_drop]; omega
    have ef : firstP price m (sqs[i] :: sqs.drop (i + 1)) (i : Int) k = if price * ((((sqs.drop (i + 1)).length : Int) + 1 + m) - bits m k) = V price m (sqs[i] :: sqs.drop (i + 1)) k then [] else
        match partV price m sqs[i] (sqs.drop (i + 1)) k with
        | none => firstP price m (sqs.drop (i + 1)) ((i : Int) + 1) k
        | some j => ((i : Int), j) :: firstP price m (sqs.drop (i + 1)) ((i : Int) + 1) (k ||| 2 ^ j.toNat) := rfl
    have en : (sqs.length : Int) - i + m - bits m k = ((sqs.drop (i + 1)).length : Int) + 1 + m - bits m k := by rw [hdl]; omega
    have ei : ((i : Int) + 1) = ((i + 1 : Nat) : Int) := by omega
    refine Ok.of h1 ?_
    unfold fpCtl
    rw [ef, en]
    by_cases hc : price * ((((sqs.drop (i + 1)).length : Int) + 1 + m) - bits m k) = V price m (sqs[i] :: sqs.drop (i + 1)) k
    · rw [if_pos hc, if_pos hc]
      exact Ok.mk ⟨(List.append_nil acc).symm, fun s e => nomatch e⟩
    · rw [if_neg hc, if_neg hc]
      cases hp : partV price m sqs[i] (sqs.drop (i + 1)) k with
      | none =>
        show Ok (forC step ((k : Int), acc) (rng ((i : Int) + 1) (sqs.length : Int))) _
        rw [ei]
        exact fp_loop hs d (i + 1) k acc (by omega) hk (by omega)
      | some j =>
        have hj := mem_frees.mp (List.mem_of_find?_eq_some hp)
        show Ok (forC step (((k ||| 2 ^ j.toNat : Nat) : Int), acc ++ [((i : Int), j)]) (rng ((i : Int) + 1) (sqs.length : Int))) _
        rw [ei]
        refine (fp_loop hs d (i + 1) (k ||| 2 ^ j.toNat) (acc ++ [((i : Int), j)]) (by omega) (or_lt hk hj.1.2 hj.1.1) (by rw [List.length_append]; show acc.length + 1 ≤ _; omega)).mono fun r hr => ?_
        rw [hr.1, List.append_assoc]
        exact ⟨rfl, hr.2⟩
theorem get_last {α : Type} (xs : List α) (x : α) : getI (xs ++ [x]) (-1) = some x := by
  unfold getI atI ixN
  rw [if_neg (by decide), if_pos (by rw [List.length_append, List.length_singleton]; omega), List.length_append, List.length_singleton]
  show (xs ++ [x])[((-1 : Int) + ((xs.length + 1 : Nat) : Int)).toNat]? = some x
  have e : ((-1 : Int) + ((xs.length + 1 : Nat) : Int)).toNat = xs.length := by omega
  rw [e, List.getElem?_append_right (Nat.le_refl _), Nat.sub_self]
  rfl
theorem dget_drop_ne {κ α : Type} [DecidableEq κ] {kvs : List (κ × α)} {k x : κ} (h : x ≠ k) : dget (ddrop kvs k) x = dget kvs x := by
  unfold dget ddrop
  congr 1
  induction kvs with
  | nil => rfl
  | cons p kvs ih =>
    rw [List.filter_cons]
    by_cases e : p.1 = k
    · rw [if_neg (by simpa using e), List.find?_cons_of_neg (by simp; rintro rfl; exact h e), ih]
    · rw [if_pos (by simpa using e)]
      by_cases e2 : p.1 = x
      · rw [List.find?_cons_of_pos (by simpa using e2), List.find?_cons_of_pos (by simpa using e2)]
      · rw [List.find?_cons_of_neg (by simpa using e2), List.find?_cons_of_neg (by simpa using e2), ih]
theorem cutI_sub {α : Type} (xs : List α) (lo hi : Option Int) : (cutI xs lo hi).Sublist xs := (List.take_sublist _ _).trans (List.drop_sublist _ _)
end FC
set_option maxHeartbeats 400000
/-! FHL: Hall's condition gives a matching; the greatest prices over a square table are met by one. -/
namespace FC
open PySem PySem.Spec PyProof.Rows L2 Evl
/-! ### counts of filters -/
theorem len_or {α : Type} (p q : α → Bool) : ∀ l : List α, (l.filter fun x => p x || q x).length = (l.filter p).length + ((l.filter fun x => !p x).filter q).length
  | [] => rfl
  | x :: l => by
    have ih := len_or p q l
    cases hp : p x <;> cases hq : q x <;> simp [List.filter_cons, hp, hq, ih] <;> omega
theorem filter_mem {α : Type} [DecidableEq α] : ∀ {s a : List α}, s.Sublist a → a.Nodup → a.filter (fun x => decide (x ∈ s)) = s
  | s, [], h, _ => by
    cases List.sublist_nil.mp h
    rfl
  | s, x :: a, h, hn => by
    have hn' := List.nodup_cons.mp hn
    cases h with
    | cons _ h =>
      have hx : x ∉ s := fun z => hn'.1 (h.subset z)
      rw [List.filter_cons_of_neg (by simpa using hx), filter_mem h hn'.2]
    | cons_cons _ h =>
      rename_i s'
      rw [List.filter_cons_of_pos (by simp)]
      congr 1
      have e : a.filter (fun y => decide (y ∈ x :: s')) = a.filter fun y => decide (y ∈ s') := List.filter_congr fun y hy => by
        have : y ≠ x := fun z => hn'.1 (z ▸ hy)
        simp [this]
      rw [e, filter_mem h hn'.2]
theorem len_ne {r : Nat} (q : Nat → Bool) : ∀ {l : List Nat}, l.Nodup → (l.filter q).length ≤ ((l.filter fun x => decide (x ≠ r)).filter q).length + 1
  | [], _ => Nat.zero_le _
  | x :: l, hn => by
    have hn' := List.nodup_cons.mp hn
    by_cases e : x = r
    · have e2 : l.filter (fun x => decide (x ≠ r)) = l := List.filter_eq_self.mpr fun y hy => by
        have : y ≠ r := fun z => hn'.1 (by rw [e, ← z]; exact hy)
        simpa using this
      rw [List.filter_cons_of_neg (p := fun x => decide (x ≠ r)) (by simpa using e), e2]
      cases hq : q x
      · rw [List.filter_cons_of_neg (by simp [hq])]
        omega
      · rw [List.filter_cons_of_pos hq, List.length_cons]
        exact Nat.le_refl _
    · rw [List.filter_cons_of_pos (p := fun x => decide (x ≠ r)) (by simpa using e)]
      have ih := len_ne (r := r) q hn'.2
      cases hq : q x
      · rw [List.filter_cons_of_neg (by simp [hq]), List.filter_cons_of_neg (by simp [hq])]
        exact ih
      · rw [List.filter_cons_of_pos hq, List.filter_cons_of_pos hq, List.length_cons, List.length_cons]
        omega
def nb (E : Nat → Nat → Bool) (R S : List Nat) : List Nat := R.filter fun r => S.any fun a => E a r
theorem any_mem {E : Nat → Nat → Bool} {S : List Nat} {r : Nat} : (S.any fun a => E a r) = true ↔ ∃ a ∈ S, E a r = true := List.any_eq_true
theorem hall (E : Nat → Nat → Bool) : ∀ (k : Nat) (A R : List Nat), A.length ≤ k → A.Nodup → R.Nodup → (∀ S, S.Sublist A → S.length ≤ (nb E R S).length) → ∃ σ : Nat → Nat, (∀ a ∈ A, σ a ∈ R ∧ E a (σ a) = true) ∧ ∀ a ∈ A, ∀ b ∈ A, σ a = σ b → a = b := by
  classical
  intro k
  induction k with
  | zero =>
    intro A R hk _ _ _
    cases List.length_eq_zero_iff.mp (Nat.le_zero.mp hk)
    exact ⟨id, ⟨(fun _ h => nomatch h), fun _ h => nomatch h⟩⟩
  | succ k ih =>
    intro A R hk hA hR h
    by_cases hc : ∃ S, S.Sublist A ∧ S ≠ [] ∧ S.length < A.length ∧ (nb E R S).length = S.length
    · obtain ⟨S, s1, s2, s3, s4⟩ := hc
      have hSn := hA.sublist s1
      obtain ⟨σ1, a1, b1⟩ := ih S (nb E R S) (by omega) hSn (hR.sublist List.filter_sublist) fun T hT => by
        have e : nb E (nb E R S) T = nb E R T := by
          unfold nb
          rw [List.filter_filter]
          refine List.filter_congr fun r _ => ?_
          cases hq : T.any fun a => E a r with
          | false => simp
          | true =>
            obtain ⟨a, ha, hE⟩ := any_mem.mp hq
            rw [any_mem.mpr ⟨a, hT.subset ha, hE⟩]
            rfl
        rw [e]
        exact h T (hT.trans s1)
      have hA' : (A.filter fun x => !decide (x ∈ S)).Nodup := hA.sublist List.filter_sublist
      have hlen : A.length = S.length + (A.filter fun x => !decide (x ∈ S)).length := by
        have := len_or (fun x => decide (x ∈ S)) (fun _ => true) A
        rw [filter_mem s1 hA] at this
        have e : ∀ l : List Nat, l.filter (fun _ => true) = l := fun l => List.filter_eq_self.mpr fun _ _ => rfl
        simp only [Bool.or_true, e] at this
        exact this
      have hpos : 0 < S.length := List.length_pos_iff.mpr s2
      obtain ⟨σ2, a2, b2⟩ := ih (A.filter fun x => !decide (x ∈ S)) (R.filter fun r => !(S.any fun a => E a r)) (by omega) hA' (hR.sublist List.filter_sublist) fun T hT => by
        have hU := h (A.filter fun x => decide (x ∈ S) || decide (x ∈ T)) List.filter_sublist
        have e1 : (A.filter fun x => decide (x ∈ S) || decide (x ∈ T)).length = S.length + T.length := by
          rw [len_or, filter_mem s1 hA, filter_mem hT hA']
        have hTA : ∀ x ∈ T, x ∈ A := fun x hx => List.filter_sublist.subset (hT.subset hx)
        have e2 : nb E R (A.filter fun x => decide (x ∈ S) || decide (x ∈ T)) = R.filter fun r => (S.any fun a => E a r) || (T.any fun a => E a r) := by
          unfold nb
          refine List.filter_congr fun r _ => ?_
          rw [Bool.eq_iff_iff, Bool.or_eq_true, any_mem, any_mem, any_mem]
          constructor
          · rintro ⟨a, ha, hE⟩
            have h2 := (List.mem_filter.mp ha).2
            rw [Bool.or_eq_true] at h2
            rcases h2 with z | z
            · exact .inl ⟨a, of_decide_eq_true z, hE⟩
            · exact .inr ⟨a, of_decide_eq_true z, hE⟩
          · rintro (⟨a, ha, hE⟩ | ⟨a, ha, hE⟩)
            · exact ⟨a, List.mem_filter.mpr ⟨s1.subset ha, by simp [ha]⟩, hE⟩
            · exact ⟨a, List.mem_filter.mpr ⟨hTA a ha, by simp [ha]⟩, hE⟩
        rw [e1, e2, len_or] at hU
        have e3 : (R.filter fun r => S.any fun a => E a r).length = S.length := s4
        rw [e3] at hU
        unfold nb
        omega
      refine ⟨fun x => if x ∈ S then σ1 x else σ2 x, fun a ha => ?_, fun a ha b hb e => ?_⟩
      · show (if a ∈ S then σ1 a else σ2 a) ∈ R ∧ E a (if a ∈ S then σ1 a else σ2 a) = true
        by_cases z : a ∈ S
        · rw [if_pos z]
          exact ⟨List.filter_sublist.subset (a1 a z).1, (a1 a z).2⟩
        · rw [if_neg z]
          have := a2 a (List.mem_filter.mpr ⟨ha, by simpa using z⟩)
          exact ⟨List.filter_sublist.subset this.1, this.2⟩
      · have e' : (if a ∈ S then σ1 a else σ2 a) = (if b ∈ S then σ1 b else σ2 b) := e
        have no : ∀ x y, x ∈ S → y ∈ A → y ∉ S → σ1 x ≠ σ2 y := fun x y hx hy hy2 z => by
          have g1 := (List.mem_filter.mp (a1 x hx).1).2
          have g2 := (List.mem_filter.mp (a2 y (List.mem_filter.mpr ⟨hy, by simpa using hy2⟩)).1).2
          rw [← z, g1] at g2
          cases g2
        by_cases z : a ∈ S
        · by_cases w : b ∈ S
          · rw [if_pos z, if_pos w] at e'
            exact b1 a z b w e'
          · rw [if_pos z, if_neg w] at e'
            exact absurd e' (no a b z hb w)
        · by_cases w : b ∈ S
          · rw [if_neg z, if_pos w] at e'
            exact absurd e'.symm (no b a w ha z)
          · rw [if_neg z, if_neg w] at e'
            exact b2 a (List.mem_filter.mpr ⟨ha, by simpa using z⟩) b (List.mem_filter.mpr ⟨hb, by simpa using w⟩) e'
    · cases A with
      | nil => exact ⟨id, ⟨(fun _ h => nomatch h), fun _ h => nomatch h⟩⟩
      | cons a A =>
        have hn := List.nodup_cons.mp hA
        have h1 := h [a] (List.singleton_sublist.mpr List.mem_cons_self)
        have h2 : 0 < (nb E R [a]).length := h1
        obtain ⟨r, hr⟩ := List.exists_mem_of_length_pos h2
        obtain ⟨hrR, hrE⟩ := List.mem_filter.mp hr
        have hE : E a r = true := by simpa using hrE
        obtain ⟨σ, a1, b1⟩ := ih A (R.filter fun x => decide (x ≠ r)) (by rw [List.length_cons] at hk; omega) hn.2 (hR.sublist List.filter_sublist) fun T hT => by
          by_cases e : T = []
          · rw [e]
            exact Nat.zero_le _
          · have g1 := h T (hT.trans (List.sublist_cons_self a A))
            have g2 : (nb E R T).length ≠ T.length := fun z => hc ⟨T, hT.trans (List.sublist_cons_self a A), e, by have := hT.length_le; rw [List.length_cons]; omega, z⟩
            have g3 := len_ne (r := r) (fun r => T.any fun a => E a r) hR
            unfold nb at g1 g2 ⊢
            omega
        refine ⟨fun x => if x = a then r else σ x, fun x hx => ?_, fun x hx y hy e => ?_⟩
        · show (if x = a then r else σ x) ∈ R ∧ E x (if x = a then r else σ x) = true
          by_cases z : x = a
          · rw [if_pos z, z]
            exact ⟨hrR, hE⟩
          · rw [if_neg z]
            have := a1 x ((List.mem_cons.mp hx).resolve_left z)
            exact ⟨List.filter_sublist.subset this.1, this.2⟩
        · have e' : (if x = a then r else σ x) = (if y = a then r else σ y) := e
          have no : ∀ z, z ∈ A → σ z ≠ r := fun z hz => by
            have := (List.mem_filter.mp (a1 z hz).1).2
            simpa using this
          by_cases z : x = a
          · by_cases w : y = a
            · rw [z, w]
            · rw [if_pos z, if_neg w] at e'
              exact absurd e'.symm (no y ((List.mem_cons.mp hy).resolve_left w))
          · by_cases w : y = a
            · rw [if_neg z, if_pos w] at e'
              exact absurd e' (no x ((List.mem_cons.mp hx).resolve_left z))
            · rw [if_neg z, if_neg w] at e'
              exact b1 x ((List.mem_cons.mp hx).resolve_left z) y ((List.mem_cons.mp hy).resolve_left w) e'
/-! ### prices over a square table -/
def sm (k : Nat) (f : Nat → Int) : Int := ((List.range k).map f).sum
theorem sm_succ (k : Nat) (f : Nat → Int) : sm (k + 1) f = sm k f + f k := by
  unfold sm
  rw [List.range_succ, List.map_append, List.sum_append]
  show _ + (f k + 0) = _
  omega
theorem sm_le {k : Nat} {f g : Nat → Int} (h : ∀ i, i < k → f i ≤ g i) : sm k f ≤ sm k g := by
  induction k with
  | zero => exact Int.le_refl _
  | succ k ih =>
    rw [sm_succ, sm_succ]
    have := ih fun i hi => h i (by omega)
    have := h k (by omega)
    omega
theorem sm_eq {k : Nat} {f g : Nat → Int} (h : ∀ i, i < k → f i = g i) : sm k f = sm k g := by
  have h1 := sm_le (k := k) (f := f) (g := g) fun i hi => Int.le_of_eq (h i hi)
  have h2 := sm_le (k := k) (f := g) (g := f) fun i hi => Int.le_of_eq (h i hi).symm
  omega
theorem sm_add (k : Nat) (f g : Nat → Int) : sm k (fun i => f i + g i) = sm k f + sm k g := by
  induction k with
  | zero => rfl
  | succ k ih =>
    rw [sm_succ, sm_succ, sm_succ, ih]
    omega
theorem sm_sub (k : Nat) (f g : Nat → Int) : sm k (fun i => f i - g i) = sm k f - sm k g := by
  induction k with
  | zero => rfl
  | succ k ih =>
    rw [sm_succ, sm_succ, sm_succ, ih]
    omega
theorem sm_const (k : Nat) (c : Int) : sm k (fun _ => c) = k * c := by
  induction k with
  | zero => simp [sm]
  | succ k ih =>
    rw [sm_succ, ih, show ((k + 1 : Nat) : Int) = (k : Int) + 1 by omega, Int.add_mul]
    omega
theorem sm_split (n m : Nat) (f : Nat → Int) : sm (n + m) f = sm n f + sm m fun d => f (n + d) := by
  induction m with
  | zero =>
    show sm n f = sm n f + 0
    omega
  | succ m ih =>
    rw [show n + (m + 1) = (n + m) + 1 by omega, sm_succ, sm_succ, ih]
    omega
/-- how many keep a test -/
theorem sm_count (k : Nat) (q : Nat → Bool) : sm k (fun i => if q i = true then 1 else 0) = (((List.range k).filter q).length : Int) := by
  induction k with
  | zero => rfl
  | succ k ih =>
    rw [sm_succ, ih, List.range_succ, List.filter_append, List.length_append]
    cases h : q k
    · rw [List.filter_cons_of_neg (by simp [h])]
      simp
    · rw [List.filter_cons_of_pos h]
      simp
theorem perm_of {α : Type} [DecidableEq α] : ∀ {l1 l2 : List α}, l1.Nodup → (∀ x ∈ l1, x ∈ l2) → l2.length ≤ l1.length → l1.Perm l2
  | [], l2, _, _, h => by
    cases List.length_eq_zero_iff.mp (Nat.le_zero.mp h)
    exact List.Perm.nil
  | x :: l1, l2, hn, hs, hl => by
    have hn' := List.nodup_cons.mp hn
    have hx := hs x List.mem_cons_self
    have hp := List.perm_cons_erase hx
    have hlen : (l2.erase x).length + 1 = l2.length := by
      have := hp.length_eq
      rw [List.length_cons] at this
      omega
    refine (List.Perm.cons x (perm_of hn'.2 (fun y hy => ?_) (by rw [List.length_cons] at hl; omega))).trans hp.symm
    have hy2 : y ≠ x := fun z => hn'.1 (z ▸ hy)
    exact (List.mem_erase_of_ne hy2).mpr (hs y (List.mem_cons_of_mem _ hy))
theorem sm_perm {N : Nat} {σ : Nat → Nat} (h1 : ∀ a, a < N → σ a < N) (h2 : ∀ a, a < N → ∀ b, b < N → σ a = σ b → a = b) (f : Nat → Int) : sm N (fun i => f (σ i)) = sm N f := by
  have hn : ((List.range N).map σ).Nodup := by
    refine List.pairwise_map.mpr (List.Pairwise.imp_of_mem (fun {a b} ha hb hab e => ?_) (List.nodup_range (n := N)))
    exact hab (h2 a (List.mem_range.mp ha) b (List.mem_range.mp hb) e)
  have hp : ((List.range N).map σ).Perm (List.range N) := perm_of hn (fun x hx => by
    obtain ⟨a, ha, rfl⟩ := List.mem_map.mp hx
    exact List.mem_range.mpr (h1 a (List.mem_range.mp ha))) (by rw [List.length_map]; exact Nat.le_refl _)
  have := perm_sum (hp.map f)
  unfold sm
  rw [← this, List.map_map]
  rfl
def Feas (N : Nat) (c : Nat → Nat → Int) (u v : Nat → Int) : Prop := ∀ l, l < N → ∀ r, r < N → u l + v r ≤ c l r
theorem feas_le {N : Nat} {c : Nat → Nat → Int} {u v : Nat → Int} (h : Feas N c u v) : sm N u + sm N v ≤ sm N fun l => c l l := by
  rw [← sm_add]
  exact sm_le fun i hi => h i hi i hi
theorem feas_max {N : Nat} {c : Nat → Nat → Int} : ∀ (k : Nat) (u v : Nat → Int), Feas N c u v → (sm N fun l => c l l) - k ≤ sm N u + sm N v → ∃ u v, Feas N c u v ∧ ∀ u' v', Feas N c u' v' → sm N u' + sm N v' ≤ sm N u + sm N v := by
  classical
  intro k
  induction k with
  | zero =>
    intro u v h hk
    exact ⟨u, v, h, fun u' v' h' => by have := feas_le h'; omega⟩
  | succ k ih =>
    intro u v h hk
    by_cases hc : ∃ u' v', Feas N c u' v' ∧ sm N u + sm N v < sm N u' + sm N v'
    · obtain ⟨u', v', h1, h2⟩ := hc
      exact ih u' v' h1 (by omega)
    · exact ⟨u, v, h, fun u' v' h' => Int.not_lt.mp fun z => hc ⟨u', v', h', z⟩⟩
/-- the greatest prices are met by a matching -/
theorem egervary {N : Nat} {c : Nat → Nat → Int} (h0 : ∀ l, l < N → ∀ r, r < N → 0 ≤ c l r) : ∃ (u v : Nat → Int) (σ : Nat → Nat), Feas N c u v ∧ (∀ a, a < N → σ a < N ∧ u a + v (σ a) = c a (σ a)) ∧ ∀ a, a < N → ∀ b, b < N → σ a = σ b → a = b := by
  classical
  have hz : Feas N c (fun _ => 0) fun _ => 0 := fun l hl r hr => by
    have := h0 l hl r hr
    show (0 : Int) + 0 ≤ c l r
    omega
  obtain ⟨u, v, h1, h2⟩ := feas_max (N := N) (c := c) (sm N fun l => c l l).toNat _ _ hz (by
    rw [sm_const]
    omega)
  obtain ⟨σ, s1, s2⟩ := hall (fun l r => decide (u l + v r = c l r)) N (List.range N) (List.range N) (by rw [List.length_range]; exact Nat.le_refl _) List.nodup_range List.nodup_range fun S hS => by
    refine Nat.not_lt.mp fun hlt => ?_
    have hq : ∀ r, (S.any fun a => decide (u a + v r = c a r)) = true ↔ ∃ a ∈ S, u a + v r = c a r := fun r => by
      rw [List.any_eq_true]
      exact ⟨fun ⟨a, b, e⟩ => ⟨a, b, of_decide_eq_true e⟩, fun ⟨a, b, e⟩ => ⟨a, b, decide_eq_true e⟩⟩
    have hf : Feas N c (fun l => u l + if decide (l ∈ S) = true then 1 else 0) (fun r => v r - if (S.any fun a => decide (u a + v r = c a r)) = true then 1 else 0) := fun l hl r hr => by
      have h3 := h1 l hl r hr
      show u l + (if decide (l ∈ S) = true then 1 else 0) + (v r - if (S.any fun a => decide (u a + v r = c a r)) = true then 1 else 0) ≤ c l r
      by_cases z : l ∈ S
      · rw [if_pos (decide_eq_true z)]
        by_cases w : u l + v r = c l r
        · rw [if_pos ((hq r).mpr ⟨l, z, w⟩)]
          omega
        · split <;> omega
      · rw [if_neg (by simpa using z)]
        split <;> omega
    have h4 := h2 _ _ hf
    rw [sm_add, sm_sub, sm_count, sm_count, filter_mem hS List.nodup_range] at h4
    have h5 : (nb (fun l r => decide (u l + v r = c l r)) (List.range N) S).length = ((List.range N).filter fun r => S.any fun a => decide (u a + v r = c a r)).length := rfl
    omega
  exact ⟨u, v, σ, h1, fun a ha => ⟨List.mem_range.mp (s1 a (List.mem_range.mpr ha)).1, of_decide_eq_true (s1 a (List.mem_range.mpr ha)).2⟩, fun a ha b hb => s2 a (List.mem_range.mpr ha) b (List.mem_range.mpr hb)⟩
end FC
set_option maxHeartbeats 400000
/-! FAS: pairs between two rows of things: what a list of pairs costs, prices below it, the least and the first. -/
namespace FC
open PySem PySem.Spec PyProof.Rows L2 Evl
abbrev Pairs := List (Int × Int)
structure Val (n m : Nat) (L : Pairs) : Prop where
  pw : L.Pairwise fun a b => a.1 < b.1 ∧ a.2 ≠ b.2
  rg : ∀ x ∈ L, (0 ≤ x.1 ∧ x.1 < n) ∧ 0 ≤ x.2 ∧ x.2 < m
def cst (D : Nat → Nat → Int) (p : Int) (n m : Nat) (L : Pairs) : Int := (L.map fun x => D x.1.toNat x.2.toNat).sum + p * ((n : Int) + m - 2 * L.length)
structure Dual (D : Nat → Nat → Int) (p : Int) (n m : Nat) (own more : Nat → Int) : Prop where
  le1 : ∀ i, i < n → own i ≤ p
  le2 : ∀ j, j < m → more j ≤ p
  d : ∀ i, i < n → ∀ j, j < m → own i + more j ≤ D i j
theorem sm_one {n a : Nat} (f : Nat → Int) (h : a < n) : sm n (fun i => if i = a then f i else 0) = f a := by
  induction n with
  | zero => omega
  | succ n ih =>
    rw [sm_succ]
    by_cases e : a = n
    · subst e
      rw [if_pos rfl, sm_eq (g := fun _ => 0) fun i hi => if_neg (by omega), sm_const]
      omega
    · rw [ih (by omega), if_neg (by omega)]
      omega
theorem sm_part {n : Nat} (f : Nat → Int) : ∀ {K : List Nat}, K.Nodup → (∀ x ∈ K, x < n) → sm n f = (K.map f).sum + sm n fun i => if i ∈ K then 0 else f i
  | [], _, _ => by
    show sm n f = 0 + sm n _
    rw [Int.zero_add]
    exact sm_eq fun i _ => (if_neg (by simp)).symm
  | a :: K, hn, hr => by
    have hn' := List.nodup_cons.mp hn
    have ih := sm_part f hn'.2 fun x hx => hr x (List.mem_cons_of_mem _ hx)
    have h1 := sm_one (n := n) f (hr a List.mem_cons_self)
    rw [List.map_cons, List.sum_cons, ih]
    have h2 : sm n (fun i => if i ∈ K then 0 else f i) = f a + sm n fun i => if i ∈ a :: K then 0 else f i := by
      rw [← h1, ← sm_add]
      refine sm_eq fun i _ => ?_
      by_cases e : i = a
      · rw [e, if_neg hn'.1, if_pos rfl, if_pos List.mem_cons_self]
        omega
      · by_cases w : i ∈ K
        · rw [if_pos w, if_neg e, if_pos (List.mem_cons_of_mem _ w)]
          rfl
        · rw [if_neg w, if_neg e, if_neg (by simp [e, w])]
          omega
    omega
theorem sm_mul (k : Nat) (p : Int) (f : Nat → Int) : sm k (fun i => p * f i) = p * sm k f := by
  induction k with
  | zero => exact (Int.mul_zero p).symm
  | succ k ih => rw [sm_succ, sm_succ, ih, Int.mul_add]
theorem sum_mapc {α : Type} (c : Int) (f : α → Int) : ∀ l : List α, (l.map fun x => c - f x).sum = c * l.length - (l.map f).sum
  | [] => by simp
  | x :: l => by
    rw [List.map_cons, List.map_cons, List.sum_cons, List.sum_cons, sum_mapc c f l, List.length_cons, show ((l.length + 1 : Nat) : Int) = (l.length : Int) + 1 by omega, Int.mul_add]
    omega
section
variable {D : Nat → Nat → Int} {p : Int} {n m : Nat} {L : Pairs} {own more : Nat → Int}
theorem Val.fst (h : Val n m L) : (L.map fun x => x.1.toNat).Nodup ∧ ∀ a ∈ L.map (fun x => x.1.toNat), a < n := by
  refine ⟨List.pairwise_map.mpr (List.Pairwise.imp_of_mem (fun {a b} ha hb hab e => ?_) h.pw), fun a ha => ?_⟩
  · have := h.rg a ha
    have := h.rg b hb
    omega
  · obtain ⟨x, hx, rfl⟩ := List.mem_map.mp ha
    have := h.rg x hx
    omega
theorem Val.snd (h : Val n m L) : (L.map fun x => x.2.toNat).Nodup ∧ ∀ a ∈ L.map (fun x => x.2.toNat), a < m := by
  refine ⟨List.pairwise_map.mpr (List.Pairwise.imp_of_mem (fun {a b} ha hb hab e => ?_) h.pw), fun a ha => ?_⟩
  · have := h.rg a ha
    have := h.rg b hb
    exact hab.2 (by omega)
  · obtain ⟨x, hx, rfl⟩ := List.mem_map.mp ha
    have := h.rg x hx
    omega
/-- what a list costs beyond the prices -/
theorem slack (h : Val n m L) (own more : Nat → Int) : cst D p n m L = sm n own + sm m more + (L.map fun x => D x.1.toNat x.2.toNat - own x.1.toNat - more x.2.toNat).sum
    + (sm n fun i => if i ∈ L.map (fun x => x.1.toNat) then 0 else p - own i) + sm m fun j => if j ∈ L.map (fun x => x.2.toNat) then 0 else p - more j := by
  have h1 := sm_part (fun i => p - own i) h.fst.1 h.fst.2
  have h2 := sm_part (fun j => p - more j) h.snd.1 h.snd.2
  rw [sm_sub, sm_const, List.map_map] at h1 h2
  have e1 : ((L.map ((fun i => p - own i) ∘ fun x : Int × Int => x.1.toNat)).sum) = p * L.length - (L.map fun x => own x.1.toNat).sum := sum_mapc p (fun x : Int × Int => own x.1.toNat) L
  have e2 : ((L.map ((fun i => p - more i) ∘ fun x : Int × Int => x.2.toNat)).sum) = p * L.length - (L.map fun x => more x.2.toNat).sum := sum_mapc p (fun x : Int × Int => more x.2.toNat) L
  have e3 : (L.map fun x => D x.1.toNat x.2.toNat - own x.1.toNat - more x.2.toNat).sum = (L.map fun x => D x.1.toNat x.2.toNat).sum - (L.map fun x => own x.1.toNat).sum - (L.map fun x => more x.2.toNat).sum := by
    clear h h1 h2 e1 e2
    induction L with
    | nil => rfl
    | cons x L ih =>
      simp only [List.map_cons, List.sum_cons]
      omega
  have e4 : p * ((n : Int) + m - 2 * L.length) = n * p + m * p - p * L.length - p * L.length := by
    rw [Int.mul_sub, Int.mul_add, Int.mul_comm p n, Int.mul_comm p m, show p * (2 * (L.length : Int)) = 2 * (p * L.length) by rw [← Int.mul_assoc, Int.mul_comm p 2, Int.mul_assoc]]
    omega
  unfold cst
  rw [e3, e4]
  omega
theorem sm_nn {k : Nat} {f : Nat → Int} (h : ∀ i, i < k → 0 ≤ f i) : 0 ≤ sm k f := by
  have := sm_le (k := k) (f := fun _ => 0) h
  rw [sm_const] at this
  omega
theorem sm_zero {k : Nat} {f : Nat → Int} (h : ∀ i, i < k → 0 ≤ f i) (e : sm k f = 0) : ∀ i, i < k → f i = 0 := by
  induction k with
  | zero => intro i hi; omega
  | succ k ih =>
    rw [sm_succ] at e
    have h1 := sm_nn (k := k) (f := f) fun i hi => h i (by omega)
    have h2 := h k (by omega)
    intro i hi
    by_cases w : i = k
    · rw [w]
      omega
    · exact ih (fun i hi => h i (by omega)) (by omega) i (by omega)
theorem sum_nn {α : Type} {f : α → Int} : ∀ {l : List α}, (∀ x ∈ l, 0 ≤ f x) → 0 ≤ (l.map f).sum
  | [], _ => Int.le_refl _
  | x :: l, h => by
    rw [List.map_cons, List.sum_cons]
    have := h x List.mem_cons_self
    have := sum_nn (l := l) fun y hy => h y (List.mem_cons_of_mem _ hy)
    omega
theorem sum_zero_all {α : Type} {f : α → Int} : ∀ {l : List α}, (∀ x ∈ l, 0 ≤ f x) → (l.map f).sum = 0 → ∀ x ∈ l, f x = 0
  | [], _, _ => fun _ h => nomatch h
  | y :: l, h, e => fun x hx => by
    rw [List.map_cons, List.sum_cons] at e
    have h1 := h y List.mem_cons_self
    have h2 := sum_nn (l := l) fun z hz => h z (List.mem_cons_of_mem _ hz)
    rcases List.mem_cons.mp hx with z | z
    · rw [z]
      omega
    · exact sum_zero_all (fun w hw => h w (List.mem_cons_of_mem _ hw)) (by omega) x z
theorem parts_nn (h : Val n m L) (hd : Dual D p n m own more) : (∀ x ∈ L, 0 ≤ D x.1.toNat x.2.toNat - own x.1.toNat - more x.2.toNat) ∧ (∀ i, i < n → 0 ≤ if i ∈ L.map (fun x => x.1.toNat) then 0 else p - own i) ∧ ∀ j, j < m → 0 ≤ if j ∈ L.map (fun x => x.2.toNat) then 0 else p - more j := by
  refine ⟨fun x hx => ?_, fun i hi => ?_, fun j hj => ?_⟩
  · have h1 := h.rg x hx
    have := hd.d x.1.toNat (by omega) x.2.toNat (by omega)
    omega
  · have := hd.le1 i hi
    split <;> omega
  · have := hd.le2 j hj
    split <;> omega
theorem weak (h : Val n m L) (hd : Dual D p n m own more) : sm n own + sm m more ≤ cst D p n m L := by
  obtain ⟨h1, h2, h3⟩ := parts_nn h hd
  rw [slack h own more]
  have := sum_nn h1
  have := sm_nn h2
  have := sm_nn h3
  omega
theorem tight (h : Val n m L) (hd : Dual D p n m own more) (e : cst D p n m L = sm n own + sm m more) : (∀ x ∈ L, own x.1.toNat + more x.2.toNat = D x.1.toNat x.2.toNat) ∧ (∀ i, i < n → i ∉ L.map (fun x => x.1.toNat) → own i = p) ∧ ∀ j, j < m → j ∉ L.map (fun x => x.2.toNat) → more j = p := by
  obtain ⟨h1, h2, h3⟩ := parts_nn h hd
  rw [slack h own more] at e
  have g1 := sum_nn h1
  have g2 := sm_nn h2
  have g3 := sm_nn h3
  refine ⟨fun x hx => ?_, fun i hi hn => ?_, fun j hj hn => ?_⟩
  · have := sum_zero_all h1 (by omega) x hx
    omega
  · have := sm_zero h2 (by omega) i hi
    rw [if_neg hn] at this
    omega
  · have := sm_zero h3 (by omega) j hj
    rw [if_neg hn] at this
    omega
theorem top_ix {k : Nat} (f : Nat → Int) (h : 0 < k) : ∃ a, a < k ∧ ∀ i, i < k → f i ≤ f a := by
  induction k with
  | zero => omega
  | succ k ih =>
    by_cases h0 : k = 0
    · subst h0
      exact ⟨0, by omega, fun i hi => by rw [show i = 0 by omega]; exact Int.le_refl _⟩
    · obtain ⟨a, h1, h2⟩ := ih (by omega)
      by_cases w : f a ≤ f k
      · refine ⟨k, by omega, fun i hi => ?_⟩
        by_cases z : i = k
        · rw [z]
          exact Int.le_refl _
        · have := h2 i (by omega)
          omega
      · refine ⟨a, by omega, fun i hi => ?_⟩
        by_cases z : i = k
        · rw [z]
          omega
        · exact h2 i (by omega)
def opi {α : Type} (k : α → Int) : Option α → Int
  | none => 0
  | some x => k x
theorem fm_sum {α : Type} (g : Nat → Option α) (k : α → Int) (n : Nat) : (((List.range n).filterMap g).map k).sum = sm n fun i => opi k (g i) := by
  induction n with
  | zero => rfl
  | succ n ih =>
    rw [List.range_succ, List.filterMap_append, List.map_append, List.sum_append, ih, sm_succ]
    cases h : g n with
    | none => simp [h, opi]
    | some x => simp [h, opi]
theorem fm_len {α : Type} (g : Nat → Option α) (n : Nat) : (((List.range n).filterMap g).length : Int) = sm n fun i => if (g i).isSome = true then 1 else 0 := by
  induction n with
  | zero => rfl
  | succ n ih =>
    rw [List.range_succ, List.filterMap_append, List.length_append, sm_succ, ← ih]
    cases h : g n with
    | none => simp [h]
    | some x => simp [h]
/-- prices that a list of pairs meets -/
theorem strong (hn : 0 < n) (hm : 0 < m) (h0 : ∀ i, i < n → ∀ j, j < m → 0 ≤ D i j) (hp : 0 ≤ p) : ∃ (own more : Nat → Int) (L : Pairs), Dual D p n m own more ∧ Val n m L ∧ cst D p n m L = sm n own + sm m more := by
  obtain ⟨u, v, σ, f1, f2, f3⟩ := egervary (N := n + m) (c := fun l r => if l < n then (if r < m then D l r else p) else (if r < m then p else 0)) fun l hl r hr => by
    show 0 ≤ if l < n then (if r < m then D l r else p) else (if r < m then p else 0)
    split
    · split
      · exact h0 l (by assumption) r (by assumption)
      · exact hp
    · split
      · exact hp
      · exact Int.le_refl _
  have f1' : ∀ l, l < n + m → ∀ r, r < n + m → u l + v r ≤ if l < n then (if r < m then D l r else p) else (if r < m then p else 0) := f1
  have f2' : ∀ a, a < n + m → σ a < n + m ∧ u a + v (σ a) = if a < n then (if σ a < m then D a (σ a) else p) else (if σ a < m then p else 0) := f2
  obtain ⟨ra, ra1, ra2⟩ := top_ix (k := n) (fun k => v (m + k)) hn
  obtain ⟨lb, lb1, lb2⟩ := top_ix (k := m) (fun k => u (n + k)) hm
  have hd : Dual D p n m (fun i => u i + v (m + ra)) (fun j => v j + u (n + lb)) := by
    have hAB : u (n + lb) + v (m + ra) ≤ 0 := by
      have := f1' (n + lb) (by omega) (m + ra) (by omega)
      rw [if_neg (by omega), if_neg (by omega)] at this
      exact this
    refine ⟨fun i hi => ?_, fun j hj => ?_, fun i hi j hj => ?_⟩
    · have := f1' i (by omega) (m + ra) (by omega)
      rw [if_pos hi, if_neg (by omega)] at this
      exact this
    · have := f1' (n + lb) (by omega) j (by omega)
      rw [if_neg (by omega), if_pos hj] at this
      show v j + u (n + lb) ≤ p
      omega
    · have := f1' i (by omega) j (by omega)
      rw [if_pos hi, if_pos hj] at this
      show u i + v (m + ra) + (v j + u (n + lb)) ≤ D i j
      omega
  have hv : Val n m ((List.range n).filterMap fun i => if σ i < m then some ((i : Int), (σ i : Int)) else none) := by
    refine ⟨?_, fun x hx => ?_⟩
    · rw [List.pairwise_filterMap]
      refine List.Pairwise.imp_of_mem (fun {a b} ha hb hab x hx y hy => ?_) (List.pairwise_lt_range (n := n))
      have ha' := List.mem_range.mp ha
      have hb' := List.mem_range.mp hb
      by_cases z : σ a < m
      · by_cases w : σ b < m
        · rw [if_pos z] at hx
          rw [if_pos w] at hy
          rw [← Option.some.inj hx, ← Option.some.inj hy]
          refine ⟨by show (a : Int) < b; omega, fun e => ?_⟩
          have e2 : (σ a : Int) = σ b := e
          have := f3 a (by omega) b (by omega) (by omega)
          omega
        · rw [if_neg w] at hy
          cases hy
      · rw [if_neg z] at hx
        cases hx
    · obtain ⟨i, hi, e⟩ := List.mem_filterMap.mp hx
      have hi' := List.mem_range.mp hi
      by_cases z : σ i < m
      · rw [if_pos z] at e
        rw [← Option.some.inj e]
        exact ⟨⟨by show (0 : Int) ≤ i; omega, by show (i : Int) < n; omega⟩, by show (0 : Int) ≤ σ i; omega, by show (σ i : Int) < m; omega⟩
      · rw [if_neg z] at e
        cases e
  refine ⟨_, _, _, hd, hv, Int.le_antisymm ?_ (weak hv hd)⟩
  have hS : sm (n + m) u + sm (n + m) v = sm (n + m) fun a => if a < n then (if σ a < m then D a (σ a) else p) else (if σ a < m then p else 0) := by
    rw [← sm_perm (σ := σ) (fun a ha => (f2' a ha).1) f3 v, ← sm_add]
    exact sm_eq fun a ha => (f2' a ha).2
  have hC : sm n (fun i => if σ i < m then 1 else 0) + sm m (fun d => if σ (n + d) < m then 1 else 0) = (m : Int) := by
    rw [← sm_split n m fun a => if σ a < m then (1 : Int) else 0, sm_perm (σ := σ) (fun a ha => (f2' a ha).1) f3 fun r => if r < m then (1 : Int) else 0, Nat.add_comm, sm_split, sm_eq (g := fun _ => 1) fun i hi => if_pos hi, sm_const, sm_eq (k := n) (g := fun _ => 0) fun i hi => if_neg (by omega), sm_const]
    omega
  have e1 : sm n (fun a => if a < n then (if σ a < m then D a (σ a) else p) else (if σ a < m then p else 0)) = sm n (fun i => if σ i < m then D i (σ i) else 0) + n * p - p * sm n fun i => if σ i < m then 1 else 0 := by
    rw [← sm_mul, ← sm_const n p, ← sm_add, ← sm_sub]
    refine sm_eq fun i hi => ?_
    rw [if_pos hi]
    split
    · omega
    · omega
  have e2 : sm m (fun d => if n + d < n then (if σ (n + d) < m then D (n + d) (σ (n + d)) else p) else (if σ (n + d) < m then p else 0)) = p * sm m fun d => if σ (n + d) < m then 1 else 0 := by
    rw [← sm_mul]
    refine sm_eq fun d hd => ?_
    rw [if_neg (by omega)]
    split
    · omega
    · omega
  rw [sm_split n m fun a => if a < n then (if σ a < m then D a (σ a) else p) else (if σ a < m then p else 0), e1, e2] at hS
  have e3 := fm_sum (fun i => if σ i < m then some ((i : Int), (σ i : Int)) else none) (fun x : Int × Int => D x.1.toNat x.2.toNat) n
  have e4 := fm_len (fun i => if σ i < m then some ((i : Int), (σ i : Int)) else none) n
  have e5 : (sm n fun i => opi (fun x : Int × Int => D x.1.toNat x.2.toNat) (if σ i < m then some ((i : Int), (σ i : Int)) else none)) = sm n fun i => if σ i < m then D i (σ i) else 0 := sm_eq fun i _ => by
    by_cases z : σ i < m
    · rw [if_pos z, if_pos z]
      rfl
    · rw [if_neg z, if_neg z]
      rfl
  have e6 : (sm n fun i => if (if σ i < m then some ((i : Int), (σ i : Int)) else none).isSome = true then 1 else 0) = sm n fun i => if σ i < m then 1 else 0 := sm_eq fun i _ => by
    by_cases z : σ i < m
    · rw [if_pos z, if_pos z]
      rfl
    · rw [if_neg z, if_neg z]
      rfl
  rw [e5] at e3
  rw [e6] at e4
  unfold cst
  rw [e3, e4]
  rw [sm_add, sm_add, sm_const, sm_const]
  have u1 : sm m (fun d => u (n + d)) ≤ m * u (n + lb) := by
    rw [← sm_const m (u (n + lb))]
    exact sm_le lb2
  have u2 : sm n (fun d => v (m + d)) ≤ n * v (m + ra) := by
    rw [← sm_const n (v (m + ra))]
    exact sm_le ra2
  have u3 : sm (n + m) v = sm m v + sm n fun d => v (m + d) := by
    rw [Nat.add_comm, sm_split]
  rw [sm_split n m u, u3] at hS
  generalize sm n (fun i => if σ i < m then (1 : Int) else 0) = k1 at *
  generalize sm m (fun d => if σ (n + d) < m then (1 : Int) else 0) = k2 at *
  have e7 : p * ((n : Int) + m - 2 * k1) = n * p - p * k1 + p * k2 := by
    rw [← hC, show (n : Int) + (k1 + k2) - 2 * k1 = n - k1 + k2 by omega, Int.mul_add, Int.mul_sub, Int.mul_comm p n]
  rw [e7]
  omega
end
end FC
set_option maxHeartbeats 400000
/-! FAT: the table of costs tells the least cost of all pairs, and the pairs it gives are the first of the least. -/
namespace FC
open PySem PySem.Spec PyProof.Rows L2 Evl
theorem least_of {l : List Int} (h : l ≠ []) : leastOf l ∈ l ∧ ∀ y ∈ l, leastOf l ≤ y := by
  cases l with
  | nil => exact absurd rfl h
  | cons x xs =>
    obtain ⟨m, h1, h2⟩ := fm_minL (c := fun x : Int => x) (lt := ltI) (x := x) (xs := xs) fun q y r e z hz => rfl
    have e : leastOf (x :: xs) = m := by
      unfold leastOf
      rw [h1]
      rfl
    rw [e]
    exact ⟨h2.mem, fun y hy => h2.le hy⟩
theorem one_of {j : Nat} : ∀ {l : List Nat}, l.Nodup → j ∈ l → (l.filter fun i => decide (i = j)).length = 1
  | [], _, h => by cases h
  | x :: l, hn, h => by
    have hn' := List.nodup_cons.mp hn
    by_cases e : x = j
    · rw [List.filter_cons_of_pos (by simpa using e), List.filter_eq_nil_iff.mpr fun y hy => by
        have : y ≠ j := fun z => hn'.1 (by rw [e, ← z]; exact hy)
        simpa using this]
      rfl
    · rw [List.filter_cons_of_neg (by simpa using e)]
      exact one_of hn'.2 ((List.mem_cons.mp h).resolve_left fun z => e z.symm)
theorem tb_or (k j i : Nat) : (k ||| 2 ^ j).testBit i = (k.testBit i || decide (i = j)) := by
  rw [Nat.testBit_or, Nat.testBit_two_pow]
  congr 1
  exact decide_eq_decide.mpr eq_comm
theorem bits_or {m k j : Nat} (hj : j < m) (hf : k.testBit j = false) : bits m (k ||| 2 ^ j) = bits m k + 1 := by
  unfold bits
  have e : ((List.range m).filter fun i => (k ||| 2 ^ j).testBit i) = (List.range m).filter fun i => k.testBit i || decide (i = j) := List.filter_congr fun i _ => tb_or k j i
  rw [e, len_or, one_of (List.nodup_range.sublist List.filter_sublist) (List.mem_filter.mpr ⟨List.mem_range.mpr hj, by simp [hf]⟩)]
def rD (rows : List (List Int)) (a b : Nat) : Int := (rows[a]?.getD [])[b]?.getD 0
structure ValR (rows : List (List Int)) (i : Int) (m k : Nat) (L : Pairs) : Prop where
  pw : L.Pairwise fun a b => a.1 < b.1 ∧ a.2 ≠ b.2
  rg : ∀ x ∈ L, (i ≤ x.1 ∧ x.1 < i + rows.length) ∧ (0 ≤ x.2 ∧ x.2 < m) ∧ k.testBit x.2.toNat = false
def cR (price : Int) (rows : List (List Int)) (i : Int) (m k : Nat) (L : Pairs) : Int := (L.map fun x => rD rows (x.1 - i).toNat x.2.toNat).sum + price * ((rows.length : Int) + m - bits m k - 2 * L.length)
section
variable {price : Int} {row : List Int} {rest : List (List Int)} {i : Int} {m k : Nat} {L : Pairs}
theorem cR_skip (h : ∀ x ∈ L, i + 1 ≤ x.1) : cR price (row :: rest) i m k L = price + cR price rest (i + 1) m k L := by
  unfold cR
  have e : (L.map fun x => rD (row :: rest) (x.1 - i).toNat x.2.toNat) = L.map fun x => rD rest (x.1 - (i + 1)).toNat x.2.toNat := List.map_congr_left fun x hx => by
    have := h x hx
    rw [show (x.1 - i).toNat = (x.1 - (i + 1)).toNat + 1 by omega]
    rfl
  rw [e, List.length_cons, show (((rest.length + 1 : Nat) : Int) + m - bits m k - 2 * L.length) = 1 + (rest.length + m - bits m k - 2 * L.length) by omega, Int.mul_add, Int.mul_one]
  omega
theorem cR_take {j : Int} (hj : 0 ≤ j ∧ j < m) (hf : k.testBit j.toNat = false) (h : ∀ x ∈ L, i + 1 ≤ x.1) : cR price (row :: rest) i m k ((i, j) :: L) = (row[j.toNat]?.getD 0) + cR price rest (i + 1) m (k ||| 2 ^ j.toNat) L := by
  unfold cR
  have e : (L.map fun x => rD (row :: rest) (x.1 - i).toNat x.2.toNat) = L.map fun x => rD rest (x.1 - (i + 1)).toNat x.2.toNat := List.map_congr_left fun x hx => by
    have := h x hx
    rw [show (x.1 - i).toNat = (x.1 - (i + 1)).toNat + 1 by omega]
    rfl
  rw [List.map_cons, List.sum_cons, e, bits_or (by omega) hf, List.length_cons, List.length_cons]
  show rD (row :: rest) (i - i).toNat j.toNat + _ + _ = _
  rw [Int.sub_self]
  have e2 : rD (row :: rest) (0 : Int).toNat j.toNat = row[j.toNat]?.getD 0 := rfl
  rw [e2, show (((rest.length + 1 : Nat) : Int) + m - bits m k - 2 * ((L.length + 1 : Nat) : Int)) = (rest.length + m - ((bits m k + 1 : Nat) : Int) - 2 * L.length) by omega]
  omega
theorem ValR.tail_take {x : Int × Int} (h : ValR (row :: rest) i m k (x :: L)) (e : x.1 = i) : ValR rest (i + 1) m (k ||| 2 ^ x.2.toNat) L ∧ (0 ≤ x.2 ∧ x.2 < m) ∧ k.testBit x.2.toNat = false ∧ ∀ y ∈ L, i + 1 ≤ y.1 := by
  have hp := List.pairwise_cons.mp h.pw
  have hx := h.rg x List.mem_cons_self
  refine ⟨⟨hp.2, fun y hy => ?_⟩, hx.2.1, hx.2.2, fun y hy => by have := (hp.1 y hy).1; omega⟩
  have hy2 := h.rg y (List.mem_cons_of_mem _ hy)
  have hy3 := hp.1 y hy
  rw [List.length_cons] at hy2
  refine ⟨⟨by omega, by omega⟩, hy2.2.1, ?_⟩
  rw [tb_or, hy2.2.2]
  have : y.2.toNat ≠ x.2.toNat := fun z => hy3.2 (by omega)
  simp [this]
theorem ValR.skip (h : ValR (row :: rest) i m k L) (hs : ∀ y ∈ L, i + 1 ≤ y.1) : ValR rest (i + 1) m k L := ⟨h.pw, fun y hy => by
  have h1 := h.rg y hy
  have h2 := hs y hy
  rw [List.length_cons] at h1
  exact ⟨⟨h2, by omega⟩, h1.2⟩⟩
theorem ValR.later {x : Int × Int} (h : ValR (row :: rest) i m k (x :: L)) (e : x.1 ≠ i) : ∀ y ∈ x :: L, i + 1 ≤ y.1 := fun y hy => by
  have hx := h.rg x List.mem_cons_self
  rcases List.mem_cons.mp hy with z | z
  · rw [z]
    omega
  · have := ((List.pairwise_cons.mp h.pw).1 y z).1
    omega
theorem V_le : ∀ {rows : List (List Int)} {i : Int} {k : Nat} {L : Pairs}, ValR rows i m k L → V price m rows k ≤ cR price rows i m k L
  | [], i, k, L, h => by
    cases L with
    | nil =>
      show price * ((m : Int) - bits m k) ≤ 0 + price * (((0 : Nat) : Int) + m - bits m k - 2 * ((0 : Nat) : Int))
      rw [show (((0 : Nat) : Int) + m - bits m k - 2 * ((0 : Nat) : Int)) = m - bits m k by omega]
      omega
    | cons x L =>
      have := h.rg x List.mem_cons_self
      rw [List.length_nil] at this
      omega
  | row :: rest, i, k, L, h => by
    have hl := (least_of (opts_ne row (V price m rest) price m k)).2
    have hlast : V price m (row :: rest) k ≤ price + V price m rest k := hl _ (by unfold opts; simp)
    cases L with
    | nil =>
      rw [cR_skip (L := []) fun _ h => nomatch h]
      have := V_le (rows := rest) (i := i + 1) (k := k) (L := []) ⟨List.Pairwise.nil, fun _ h => nomatch h⟩
      omega
    | cons x L =>
      by_cases e : x.1 = i
      · obtain ⟨h1, h2, h3, h4⟩ := h.tail_take e
        obtain ⟨x1, x2⟩ := x
        dsimp only at e h1 h2 h3
        subst e
        rw [cR_take h2 h3 h4]
        have h5 : V price m (row :: rest) k ≤ (row[x2.toNat]?.getD 0) + V price m rest (k ||| 2 ^ x2.toNat) := hl _ (by
          unfold opts
          exact List.mem_append_left _ (List.mem_map.mpr ⟨x2, mem_frees.mpr ⟨h2, h3⟩, rfl⟩))
        have := V_le h1
        omega
      · have h4 := h.later e
        rw [cR_skip h4]
        have := V_le (h.skip h4)
        omega
theorem frees_pw (m k : Nat) : (frees m k).Pairwise (· < ·) := (rng_pw _ _).sublist List.filter_sublist
theorem first_least : ∀ {rows : List (List Int)} {i : Int} {k : Nat}, ValR rows i m k (firstP price m rows i k) ∧ cR price rows i m k (firstP price m rows i k) = V price m rows k ∧ ∀ L, ValR rows i m k L → cR price rows i m k L = V price m rows k → firstP price m rows i k = L ∨ ltL (ltP ltI ltI) (firstP price m rows i k) L = true
  | [], i, k => by
    refine ⟨⟨List.Pairwise.nil, fun _ h => nomatch h⟩, ?_, fun L hL _ => ?_⟩
    · show 0 + price * (((0 : Nat) : Int) + m - bits m k - 2 * ((0 : Nat) : Int)) = price * ((m : Int) - bits m k)
      rw [show (((0 : Nat) : Int) + m - bits m k - 2 * ((0 : Nat) : Int)) = m - bits m k by omega]
      omega
    · cases L with
      | nil => exact .inl rfl
      | cons x L =>
        have := hL.rg x List.mem_cons_self
        rw [List.length_nil] at this
        omega
  | row :: rest, i, k => by
    have hle := least_of (opts_ne row (V price m rest) price m k)
    have hnil : cR price (row :: rest) i m k [] = price * (((rest.length : Int) + 1 + m) - bits m k) := by
      show 0 + price * (((rest.length + 1 : Nat) : Int) + m - bits m k - 2 * ((0 : Nat) : Int)) = _
      rw [show (((rest.length + 1 : Nat) : Int) + m - bits m k - 2 * ((0 : Nat) : Int)) = (rest.length : Int) + 1 + m - bits m k by omega]
      omega
    by_cases hc : price * (((rest.length : Int) + 1 + m) - bits m k) = V price m (row :: rest) k
    · have ef : firstP price m (row :: rest) i k = [] := by
        show (if _ then _ else _) = _
        rw [if_pos hc]
      rw [ef]
      refine ⟨⟨List.Pairwise.nil, fun _ h => nomatch h⟩, by rw [hnil, hc], fun L _ _ => ?_⟩
      cases L with
      | nil => exact .inl rfl
      | cons x L => exact .inr rfl
    · have hne : ∀ L, cR price (row :: rest) i m k L = V price m (row :: rest) k → L ≠ [] := fun L e z => by
        rw [z, hnil] at e
        exact hc e
      have hopt : ∀ (x : Int × Int) L, ValR (row :: rest) i m k (x :: L) → x.1 = i → cR price (row :: rest) i m k (x :: L) = V price m (row :: rest) k → (row[x.2.toNat]?.getD 0) + V price m rest (k ||| 2 ^ x.2.toNat) = V price m (row :: rest) k ∧ cR price rest (i + 1) m (k ||| 2 ^ x.2.toNat) L = V price m rest (k ||| 2 ^ x.2.toNat) := fun x L hL e hopt => by
        obtain ⟨h1, h2, h3, h4⟩ := hL.tail_take e
        obtain ⟨x1, x2⟩ := x
        dsimp only at e h1 h2 h3 ⊢
        subst e
        rw [cR_take h2 h3 h4] at hopt
        have g1 := V_le (price := price) h1
        have g2 : V price m (row :: rest) k ≤ (row[x2.toNat]?.getD 0) + V price m rest (k ||| 2 ^ x2.toNat) := hle.2 _ (by
          unfold opts
          exact List.mem_append_left _ (List.mem_map.mpr ⟨x2, mem_frees.mpr ⟨h2, h3⟩, rfl⟩))
        exact ⟨by omega, by omega⟩
      cases hp : partV price m row rest k with
      | some j =>
        have ef : firstP price m (row :: rest) i k = (i, j) :: firstP price m rest (i + 1) (k ||| 2 ^ j.toNat) := by
          show (if _ then _ else match partV price m row rest k with | none => _ | some j => _) = _
          rw [if_neg hc, hp]
        obtain ⟨p1, as, bs, p2, p3⟩ := List.find?_eq_some_iff_append.mp hp
        have p1' := of_decide_eq_true p1
        have hj := mem_frees.mp (List.mem_of_find?_eq_some hp)
        obtain ⟨f1, f2, f3⟩ := first_least (rows := rest) (i := i + 1) (k := k ||| 2 ^ j.toNat)
        rw [ef]
        have hlat : ∀ x ∈ firstP price m rest (i + 1) (k ||| 2 ^ j.toNat), i + 1 ≤ x.1 := fun x hx => (f1.rg x hx).1.1
        refine ⟨⟨List.pairwise_cons.mpr ⟨fun y hy => ?_, f1.pw⟩, fun y hy => ?_⟩, ?_, fun L hL hopt2 => ?_⟩
        · have h1 := f1.rg y hy
          have h2 := h1.2.2
          rw [tb_or, Bool.or_eq_false_iff] at h2
          exact ⟨by show i < y.1; omega, fun z => by
            have z' : j = y.2 := z
            exact of_decide_eq_false h2.2 (by rw [z'])⟩
        · rcases List.mem_cons.mp hy with z | z
          · rw [z, List.length_cons]
            exact ⟨⟨Int.le_refl _, by show i < i + _; omega⟩, hj⟩
          · have h1 := f1.rg y z
            have h2 := h1.2.2
            rw [tb_or, Bool.or_eq_false_iff] at h2
            rw [List.length_cons]
            exact ⟨⟨by omega, by omega⟩, h1.2.1, h2.1⟩
        · rw [cR_take hj.1 hj.2 hlat, f2, p1']
        · cases L with
          | nil => exact absurd rfl (hne [] hopt2)
          | cons x L =>
            by_cases e : x.1 = i
            · obtain ⟨o1, o2⟩ := hopt x L hL e hopt2
              obtain ⟨h1, h2, h3, h4⟩ := hL.tail_take e
              obtain ⟨x1, x2⟩ := x
              dsimp only at e o1 o2 h1 h2 h3
              subst e
              have hx2 : x2 ∈ frees m k := mem_frees.mpr ⟨h2, h3⟩
              rw [p2] at hx2
              have hpw := frees_pw m k
              rw [p2] at hpw
              rcases List.mem_append.mp hx2 with z | z
              · have := p3 x2 z
                rw [decide_eq_true o1] at this
                cases this
              · rcases List.mem_cons.mp z with z | z
                · subst z
                  rcases f3 L h1 o2 with w | w
                  · exact .inl (by rw [w])
                  · refine .inr ?_
                    show (if (x1, x2) = (x1, x2) then _ else _) = true
                    rw [if_pos rfl]
                    exact w
                · have hlt := (List.pairwise_cons.mp (List.pairwise_append.mp hpw).2.1).1 x2 z
                  refine .inr ?_
                  show (if (x1, j) = (x1, x2) then _ else ltP ltI ltI (x1, j) (x1, x2)) = true
                  rw [if_neg fun w => by
                    have := (Prod.mk.inj w).2
                    omega]
                  show (if x1 = x1 then ltI j x2 else _) = true
                  rw [if_pos rfl]
                  exact decide_eq_true hlt
            · have hi := hL.later e x List.mem_cons_self
              refine .inr ?_
              show (if (i, j) = x then _ else ltP ltI ltI (i, j) x) = true
              rw [if_neg fun w => e (by rw [← w])]
              show (if i = x.1 then _ else ltI i x.1) = true
              rw [if_neg fun w => e w.symm]
              exact decide_eq_true (by omega)
      | none =>
        have ef : firstP price m (row :: rest) i k = firstP price m rest (i + 1) k := by
          show (if _ then _ else match partV price m row rest k with | none => _ | some j => _) = _
          rw [if_neg hc, hp]
        have hno : ∀ j ∈ frees m k, (row[j.toNat]?.getD 0) + V price m rest (k ||| 2 ^ j.toNat) ≠ V price m (row :: rest) k := fun j hj => by
          have := List.find?_eq_none.mp hp j hj
          simpa using this
        have hV : V price m (row :: rest) k = price + V price m rest k := by
          have h1 : V price m (row :: rest) k ∈ opts row (V price m rest) price m k := hle.1
          unfold opts at h1
          rcases List.mem_append.mp h1 with z | z
          · obtain ⟨j, hj, e⟩ := List.mem_map.mp z
            exact absurd e (hno j hj)
          · exact List.mem_singleton.mp z
        obtain ⟨f1, f2, f3⟩ := first_least (rows := rest) (i := i + 1) (k := k)
        rw [ef]
        have hlat : ∀ x ∈ firstP price m rest (i + 1) k, i + 1 ≤ x.1 := fun x hx => (f1.rg x hx).1.1
        refine ⟨⟨f1.pw, fun y hy => ?_⟩, by rw [cR_skip hlat, f2, hV], fun L hL hopt2 => ?_⟩
        · have h1 := f1.rg y hy
          rw [List.length_cons]
          exact ⟨⟨by omega, by omega⟩, h1.2⟩
        · cases L with
          | nil => exact absurd rfl (hne [] hopt2)
          | cons x L =>
            by_cases e : x.1 = i
            · obtain ⟨o1, _⟩ := hopt x L hL e hopt2
              obtain ⟨_, h2, h3, _⟩ := hL.tail_take e
              exact absurd o1 (hno x.2 (mem_frees.mpr ⟨h2, h3⟩))
            · have h4 := hL.later e
              refine f3 (x :: L) (hL.skip h4) ?_
              rw [cR_skip h4, hV] at hopt2
              omega
end
/-! ### from the top -/
section
variable {D : Nat → Nat → Int} {price : Int} {n m : Nat} {sqs : List (List Int)} {L : Pairs}
theorem val_top (hn : sqs.length = n) : ValR sqs 0 m 0 L ↔ Val n m L := by
  subst hn
  constructor
  · intro h
    exact ⟨h.pw, fun x hx => by have := h.rg x hx; exact ⟨⟨this.1.1, by omega⟩, this.2.1⟩⟩
  · intro h
    exact ⟨h.pw, fun x hx => by have := h.rg x hx; exact ⟨⟨this.1.1, by omega⟩, this.2, Nat.zero_testBit _⟩⟩
theorem cost_top (hn : sqs.length = n) : cR price sqs 0 m 0 L = cst (rD sqs) price n m L := by
  unfold cR cst
  rw [bits_zero, hn]
  have e : (L.map fun x => rD sqs (x.1 - 0).toNat x.2.toNat) = L.map fun x => rD sqs x.1.toNat x.2.toNat := List.map_congr_left fun x _ => by rw [Int.sub_zero]
  rw [e, show ((n : Int) + m - ((0 : Nat) : Int) - 2 * L.length) = n + m - 2 * L.length by omega]
theorem top (hn : sqs.length = n) : Val n m (firstP price m sqs 0 0) ∧ cst (rD sqs) price n m (firstP price m sqs 0 0) = V price m sqs 0 ∧ (∀ L, Val n m L → V price m sqs 0 ≤ cst (rD sqs) price n m L) ∧ ∀ L, Val n m L → cst (rD sqs) price n m L = V price m sqs 0 → firstP price m sqs 0 0 = L ∨ ltL (ltP ltI ltI) (firstP price m sqs 0 0) L = true := by
  obtain ⟨h1, h2, h3⟩ := first_least (price := price) (m := m) (rows := sqs) (i := 0) (k := 0)
  rw [cost_top hn] at h2
  refine ⟨(val_top hn).mp h1, h2, fun L hL => ?_, fun L hL e => h3 L ((val_top hn).mpr hL) (by rw [cost_top hn]; exact e)⟩
  rw [← cost_top hn]
  exact V_le ((val_top hn).mpr hL)
end
end FC
set_option maxHeartbeats 2000000
namespace K92
open PySem PySem.Spec PyProof.Rows L2 Evl FC
def topS (i : Nat) : Stmt := PySem.Challenge.pw_fewcolours_k92_whole_prices_show_the_lea.main.body.getD i (.Pass ⟨0, 0, 0, 0⟩)
abbrev names_Costs : List Str := ["many", "others", "price", "squares", "least"]
theorem pa_Costs_many : PutAt "many" names_Costs 0 := by decide +kernel
theorem pa_Costs_others : PutAt "others" names_Costs 1 := by decide +kernel
theorem pa_Costs_price : PutAt "price" names_Costs 2 := by decide +kernel
theorem pa_Costs_squares : PutAt "squares" names_Costs 3 := by decide +kernel
theorem pa_Costs_least : PutAt "least" names_Costs 4 := by decide +kernel
theorem nm_Costs_free : ("free" : Str) ∉ names_Costs := by decide +kernel
theorem nm_Costs_from_here : ("from_here" : Str) ∉ names_Costs := by decide +kernel
theorem nm_Costs_rest : ("rest" : Str) ∉ names_Costs := by decide +kernel
theorem nm_Costs_partner : ("partner" : Str) ∉ names_Costs := by decide +kernel
theorem nm_Costs_first_pairs : ("first_pairs" : Str) ∉ names_Costs := by decide +kernel
noncomputable def m_apart (v_one : (List Int)) (v_other : (List Int)) : Option (Int) :=
  ((lenG (List.length (List.zip v_one v_other))).bind fun u4 => ((mapO (fun (p_ : (Int × Int)) => (fun (v_a1 : Int) (v_b1 : Int) => ((mulG (v_a1 - v_b1) (v_a1 - v_b1)).bind fun t2 => some t2)) p_.1 p_.2) (List.zip v_one v_other)).bind fun o6 => some (List.sum o6)))
def pf_m_apart : Pf := fun as m R => ∃ (v_one : (List Int)) (v_other : (List Int)) (r_ : Int), m_apart v_one v_other = some r_ ∧ as = [.da ((dU dI) v_one), .da ((dU dI) v_other)] ∧ m = [] ∧ R = fun c m2 => c = .da (dI r_) ∧ m2 = []
abbrev sm_apart : Stmt := topS 1
abbrev N_m_apart : List Str := ["one", "other", "a", "b"]
theorem sc_m_apart : FnScope N_m_apart ["one", "other"] (defScope sm_apart) := ⟨rfl, rfl, rfl, by decide +kernel, rfl, by decide +kernel, by decide +kernel⟩
noncomputable def m_cost_of (v_one : (List (List Int))) (v_other : (List (List Int))) (v_price : Int) (v_pairs : (List (Int × Int))) : Option (Int) :=
  ((lenG (List.length v_pairs)).bind fun u8 => ((mapO (fun (p_ : (Int × Int)) => (fun (v_i1 : Int) (v_j1 : Int) => ((getI v_one v_i1).bind fun t2 => ((getI v_other v_j1).bind fun t4 => ((m_apart t2 t4).bind fun t6 => some t6)))) p_.1 p_.2) v_pairs).bind fun o10 => ((some (List.sum o10)).bind fun v_turned12 => ((mulG (2 : Int) (List.length v_pairs : Int)).bind fun t14 => ((mulG v_price (((List.length v_one : Int) + (List.length v_other : Int)) - t14)).bind fun t16 => some (v_turned12 + t16))))))
def pf_m_cost_of : Pf := fun as m R => ∃ (v_one : (List (List Int))) (v_other : (List (List Int))) (v_price : Int) (v_pairs : (List (Int × Int))) (r_ : Int), m_cost_of v_one v_other v_price v_pairs = some r_ ∧ as = [.da ((dL (dU dI)) v_one), .da ((dL (dU dI)) v_other), .da (dI v_price), .da ((dL (dP dI dI)) v_pairs)] ∧ m = [] ∧ R = fun c m2 => c = .da (dI r_) ∧ m2 = []
abbrev sm_cost_of : Stmt := topS 3
abbrev N_m_cost_of : List Str := ["one", "other", "price", "pairs", "turned", "i", "j"]
theorem sc_m_cost_of : FnScope N_m_cost_of ["one", "other", "price", "pairs"] (defScope sm_cost_of) := ⟨rfl, rfl, rfl, by decide +kernel, rfl, by decide +kernel, by decide +kernel⟩
noncomputable def m_ones_in (v_mask : Int) : Option (Int) :=
  ((whiL (fun (s_ : Int × Int) => (fun (v_many1 : Int) (v_mask2 : Int) => some (decide ((0 : Int) < v_mask2))) s_.1 s_.2) (fun (s_ : Int × Int) => (fun (v_many1 : Int) (v_mask2 : Int) => ((modG v_mask2 (2 : Int)).bind fun t7 => ((fdivG v_mask2 (2 : Int)).bind fun t9 => some ((v_many1 + t7), t9)))) s_.1 s_.2) ((0 : Int), v_mask)).bind fun (v_many11, v_mask12) => some v_many11)
def pf_m_ones_in : Pf := fun as m R => ∃ (v_mask : Int) (r_ : Int), m_ones_in v_mask = some r_ ∧ as = [.da (dI v_mask)] ∧ m = [] ∧ R = fun c m2 => c = .da (dI r_) ∧ m2 = []
abbrev sm_ones_in : Stmt := topS 4
abbrev N_m_ones_in : List Str := ["mask", "many"]
theorem sc_m_ones_in : FnScope N_m_ones_in ["mask"] (defScope sm_ones_in) := ⟨rfl, rfl, rfl, by decide +kernel, rfl, by decide +kernel, by decide +kernel⟩
noncomputable def m_Costs_free (v_self : (Int × Int × Int × (List (List Int)))) (v_self_least : (List (List Int))) (v_mask : Int) : Option ((List Int)) :=
  ((rngG 0 v_self.2.1).bind fun rg1 => ((lenG (List.length rg1)).bind fun u6 => ((filO (fun (v_j3 : Int) => ((shrG v_mask v_j3).bind fun t4 => some (decide ((Builtin.bitAnd t4 (1 : Int)) = (0 : Int))))) (fun (v_j3 : Int) => some v_j3) rg1).bind fun o8 => some o8)))
def pf_m_Costs_free (C_Costs : Addr) : Pf := fun as m R => ∃ (l_self : Addr) (dx_self : Addr) (l_self_least : Addr) (v_self : (Int × Int × Int × (List (List Int)))) (v_self_least : (List (List Int))) (v_mask : Int) (r_ : (List Int)), m_Costs_free v_self v_self_least v_mask = some r_ ∧ as = [.rf l_self, .da (dI v_mask)] ∧ m = [(l_self, obj C_Costs dx_self names_Costs [.da (dI v_self.1), .da (dI v_self.2.1), .da (dI v_self.2.2.1), .da ((dL (dL dI)) v_self.2.2.2), .rf l_self_least]), (l_self_least, .ls (List.map (dL dI) v_self_least))] ∧ R = fun c m2 => c = .da ((dL dI) r_) ∧ m2 = [(l_self, obj C_Costs dx_self names_Costs [.da (dI v_self.1), .da (dI v_self.2.1), .da (dI v_self.2.2.1), .da ((dL (dL dI)) v_self.2.2.2), .rf l_self_least]), (l_self_least, .ls (List.map (dL dI) v_self_least))]
abbrev sm_Costs_free : Stmt := inClass (topS 5) 1
abbrev N_m_Costs_free : List Str := ["self", "mask", "j"]
theorem sc_m_Costs_free : FnScope N_m_Costs_free ["self", "mask"] (defScope sm_Costs_free) := ⟨rfl, rfl, rfl, by decide +kernel, rfl, by decide +kernel, by decide +kernel⟩
noncomputable def m_Costs_from_here (v_self : (Int × Int × Int × (List (List Int)))) (v_self_least : (List (List Int))) (v_i : Int) (v_mask : Int) : Option (Int) :=
  ((getI v_self_least (0 : Int)).bind fun t1 => ((m_Costs_free v_self v_self_least v_mask).bind fun t3 => ((lenG (List.length t3)).bind fun u14 => ((mapO (fun (v_j5 : Int) => ((getI v_self.2.2.2 v_i).bind fun t6 => ((getI t6 v_j5).bind fun t8 => ((shlG (1 : Int) v_j5).bind fun t10 => ((getI t1 (Builtin.bitOr v_mask t10)).bind fun t12 => some (t8 + t12)))))) t3).bind fun o16 => ((getI t1 v_mask).bind fun t18 => ((lenG (List.length o16 + List.length ([(v_self.2.2.1 + t18)] : (List Int)))).bind fun u20 => ((minL (EncO.lt dI) (o16 ++ ([(v_self.2.2.1 + t18)] : (List Int)))).bind fun t22 => some t22)))))))
def pf_m_Costs_from_here (C_Costs : Addr) : Pf := fun as m R => ∃ (l_self : Addr) (dx_self : Addr) (l_self_least : Addr) (v_self : (Int × Int × Int × (List (List Int)))) (v_self_least : (List (List Int))) (v_i : Int) (v_mask : Int) (r_ : Int), m_Costs_from_here v_self v_self_least v_i v_mask = some r_ ∧ as = [.rf l_self, .da (dI v_i), .da (dI v_mask)] ∧ m = [(l_self, obj C_Costs dx_self names_Costs [.da (dI v_self.1), .da (dI v_self.2.1), .da (dI v_self.2.2.1), .da ((dL (dL dI)) v_self.2.2.2), .rf l_self_least]), (l_self_least, .ls (List.map (dL dI) v_self_least))] ∧ R = fun c m2 => c = .da (dI r_) ∧ m2 = [(l_self, obj C_Costs dx_self names_Costs [.da (dI v_self.1), .da (dI v_self.2.1), .da (dI v_self.2.2.1), .da ((dL (dL dI)) v_self.2.2.2), .rf l_self_least]), (l_self_least, .ls (List.map (dL dI) v_self_least))]
abbrev sm_Costs_from_here : Stmt := inClass (topS 5) 2
abbrev N_m_Costs_from_here : List Str := ["self", "i", "mask", "behind", "some", "j"]
theorem sc_m_Costs_from_here : FnScope N_m_Costs_from_here ["self", "i", "mask"] (defScope sm_Costs_from_here) := ⟨rfl, rfl, rfl, by decide +kernel, rfl, by decide +kernel, by decide +kernel⟩
noncomputable def m_Costs_init (v_one : (List (List Int))) (v_other : (List (List Int))) (v_price : Int) : Option ((Int × Int × Int × (List (List Int))) × (List (List Int))) :=
  ((some (List.length v_one : Int)).bind fun v_many1 => ((some (List.length v_other : Int)).bind fun v_others3 => ((lenG (List.length v_one)).bind fun u13 => ((mapO (fun (v_colour5 : (List Int)) => ((lenG (List.length v_other)).bind fun u9 => ((mapO (fun (v_more6 : (List Int)) => ((m_apart v_colour5 v_more6).bind fun t7 => some t7)) v_other).bind fun o11 => some o11))) v_one).bind fun o15 => ((shlG (1 : Int) v_others3).bind fun t17 => ((rngG 0 t17).bind fun rg19 => ((lenG (List.length rg19)).bind fun u26 => ((mapO (fun (v_mask21 : Int) => ((m_ones_in v_mask21).bind fun t22 => ((mulG v_price (v_others3 - t22)).bind fun t24 => some t24))) rg19).bind fun o28 => ((rngG 0 v_many1).bind fun rg31 => ((forF (fun (s_ : (List (List Int))) => (fun (v_i33 : Int) => (fun (c49 : (List (List Int))) => ((shlG (1 : Int) v_others3).bind fun t63 => ((rngG 0 t63).bind fun rg65 => ((lenG (List.length rg65)).bind fun u70 => ((mapO (fun (v_mask67 : Int) => ((m_Costs_from_here (v_many1, v_others3, v_price, o15) c49 v_i33 v_mask67).bind fun t68 => some t68)) rg65).bind fun o72 => ((insI c49 (0 : Int) o72).bind fun c74 => some c74)))))) s_)) ([o28] : (List (List Int))) (List.reverse rg31)).bind fun c76 => some ((v_many1, v_others3, v_price, o15), c76)))))))))))
def pf_m_Costs_init (C_Costs : Addr) : Pf := fun as m R => ∃ (l_self : Addr) (dx_self : Addr) (v_one : (List (List Int))) (v_other : (List (List Int))) (v_price : Int) (w_self : (Int × Int × Int × (List (List Int)))) (w_least : (List (List Int))), m_Costs_init v_one v_other v_price = some (w_self, w_least) ∧ as = [.rf l_self, .da ((dL (dU dI)) v_one), .da ((dL (dU dI)) v_other), .da (dI v_price)] ∧ m = [(l_self, obj C_Costs dx_self names_Costs [])] ∧ R = fun c m2 => c = .da .none ∧ ∃ n_least, m2 = [(l_self, obj C_Costs dx_self names_Costs [.da (dI w_self.1), .da (dI w_self.2.1), .da (dI w_self.2.2.1), .da ((dL (dL dI)) w_self.2.2.2), .rf n_least]), (n_least, .ls (List.map (dL dI) w_least))]
abbrev sm_Costs_init : Stmt := inClass (topS 5) 0
abbrev N_m_Costs_init : List Str := ["self", "one", "other", "price", "i", "colour", "more", "mask"]
theorem sc_m_Costs_init : FnScope N_m_Costs_init ["self", "one", "other", "price"] (defScope sm_Costs_init) := ⟨rfl, rfl, rfl, by decide +kernel, rfl, by decide +kernel, by decide +kernel⟩
noncomputable def m_Costs_rest (v_self : (Int × Int × Int × (List (List Int)))) (v_self_least : (List (List Int))) (v_i : Int) (v_mask : Int) : Option (Int) :=
  ((m_ones_in v_mask).bind fun t1 => ((mulG v_self.2.2.1 (((v_self.1 - v_i) + v_self.2.1) - t1)).bind fun t3 => some t3))
def pf_m_Costs_rest (C_Costs : Addr) : Pf := fun as m R => ∃ (l_self : Addr) (dx_self : Addr) (l_self_least : Addr) (v_self : (Int × Int × Int × (List (List Int)))) (v_self_least : (List (List Int))) (v_i : Int) (v_mask : Int) (r_ : Int), m_Costs_rest v_self v_self_least v_i v_mask = some r_ ∧ as = [.rf l_self, .da (dI v_i), .da (dI v_mask)] ∧ m = [(l_self, obj C_Costs dx_self names_Costs [.da (dI v_self.1), .da (dI v_self.2.1), .da (dI v_self.2.2.1), .da ((dL (dL dI)) v_self.2.2.2), .rf l_self_least]), (l_self_least, .ls (List.map (dL dI) v_self_least))] ∧ R = fun c m2 => c = .da (dI r_) ∧ m2 = [(l_self, obj C_Costs dx_self names_Costs [.da (dI v_self.1), .da (dI v_self.2.1), .da (dI v_self.2.2.1), .da ((dL (dL dI)) v_self.2.2.2), .rf l_self_least]), (l_self_least, .ls (List.map (dL dI) v_self_least))]
abbrev sm_Costs_rest : Stmt := inClass (topS 5) 3
abbrev N_m_Costs_rest : List Str := ["self", "i", "mask"]
theorem sc_m_Costs_rest : FnScope N_m_Costs_rest ["self", "i", "mask"] (defScope sm_Costs_rest) := ⟨rfl, rfl, rfl, by decide +kernel, rfl, by decide +kernel, by decide +kernel⟩
noncomputable def m_Costs_partner (v_self : (Int × Int × Int × (List (List Int)))) (v_self_least : (List (List Int))) (v_i : Int) (v_mask : Int) : Option ((Option Int)) :=
  ((m_Costs_free v_self v_self_least v_mask).bind fun t1 => ((forC (R := (Option Int)) (fun (s_ : Unit) => (fun (v_j3 : Int) => ((getI v_self.2.2.2 v_i).bind fun t34 => ((getI t34 v_j3).bind fun t36 => ((getI v_self_least (v_i + (1 : Int))).bind fun t38 => ((shlG (1 : Int) v_j3).bind fun t40 => ((getI t38 (Builtin.bitOr v_mask t40)).bind fun t42 => ((getI v_self_least v_i).bind fun t44 => ((getI t44 v_mask).bind fun t46 => (cond (decide ((t36 + t42) = t46)) (some (Ctl.rt (some v_j3))) (some (Ctl.nx ())))))))))))) () t1).bind fun k50 => ctlK k50 (fun (_ : Unit) => some (none : (Option Int))) (fun r_ => some r_)))
def pf_m_Costs_partner (C_Costs : Addr) : Pf := fun as m R => ∃ (l_self : Addr) (dx_self : Addr) (l_self_least : Addr) (v_self : (Int × Int × Int × (List (List Int)))) (v_self_least : (List (List Int))) (v_i : Int) (v_mask : Int) (r_ : (Option Int)), m_Costs_partner v_self v_self_least v_i v_mask = some r_ ∧ as = [.rf l_self, .da (dI v_i), .da (dI v_mask)] ∧ m = [(l_self, obj C_Costs dx_self names_Costs [.da (dI v_self.1), .da (dI v_self.2.1), .da (dI v_self.2.2.1), .da ((dL (dL dI)) v_self.2.2.2), .rf l_self_least]), (l_self_least, .ls (List.map (dL dI) v_self_least))] ∧ R = fun c m2 => c = .da ((dO dI) r_) ∧ m2 = [(l_self, obj C_Costs dx_self names_Costs [.da (dI v_self.1), .da (dI v_self.2.1), .da (dI v_self.2.2.1), .da ((dL (dL dI)) v_self.2.2.2), .rf l_self_least]), (l_self_least, .ls (List.map (dL dI) v_self_least))]
abbrev sm_Costs_partner : Stmt := inClass (topS 5) 4
abbrev N_m_Costs_partner : List Str := ["self", "i", "mask", "j"]
theorem sc_m_Costs_partner : FnScope N_m_Costs_partner ["self", "i", "mask"] (defScope sm_Costs_partner) := ⟨rfl, rfl, rfl, by decide +kernel, rfl, by decide +kernel, by decide +kernel⟩
noncomputable def m_Costs_first_pairs (v_self : (Int × Int × Int × (List (List Int)))) (v_self_least : (List (List Int))) : Option ((List (Int × Int))) :=
  ((rngG 0 v_self.1).bind fun rg2 => ((forC (R := (List (Int × Int))) (fun (s_ : Int × (List (Int × Int))) => (fun (v_i4 : Int) => (fun (v_mask40 : Int) (c41 : (List (Int × Int))) => ((m_Costs_rest v_self v_self_least v_i4 v_mask40).bind fun t73 => ((getI v_self_least v_i4).bind fun t75 => ((getI t75 v_mask40).bind fun t77 => (cond (decide (t73 = t77)) (some (Ctl.rt c41)) (((m_Costs_partner v_self v_self_least v_i4 v_mask40).bind fun t79 => ((cond (t79).isSome (((t79).bind fun w93 => ((lenG (List.length c41)).bind fun u95 => ((t79).bind fun w97 => ((shlG (1 : Int) w97).bind fun t99 => ((some (Builtin.bitOr v_mask40 t99)).bind fun v_mask101 => some (v_mask101, (c41 ++ [(v_i4, w93)])))))))) (some (v_mask40, c41))).bind fun (v_mask91, c92) => some (Ctl.nx (v_mask91, c92)))))))))) s_.1 s_.2)) ((0 : Int), ([] : (List (Int × Int)))) rg2).bind fun k107 => ctlK k107 (fun (s_ : Int × (List (Int × Int))) => (fun (v_mask104 : Int) (c105 : (List (Int × Int))) => some c105) s_.1 s_.2) (fun r_ => some r_)))
def pf_m_Costs_first_pairs (C_Costs : Addr) : Pf := fun as m R => ∃ (l_self : Addr) (dx_self : Addr) (l_self_least : Addr) (v_self : (Int × Int × Int × (List (List Int)))) (v_self_least : (List (List Int))) (r_ : (List (Int × Int))), m_Costs_first_pairs v_self v_self_least = some r_ ∧ as = [.rf l_self] ∧ m = [(l_self, obj C_Costs dx_self names_Costs [.da (dI v_self.1), .da (dI v_self.2.1), .da (dI v_self.2.2.1), .da ((dL (dL dI)) v_self.2.2.2), .rf l_self_least]), (l_self_least, .ls (List.map (dL dI) v_self_least))] ∧ R = fun c m2 => c = .da ((dL (dP dI dI)) r_) ∧ m2 = [(l_self, obj C_Costs dx_self names_Costs [.da (dI v_self.1), .da (dI v_self.2.1), .da (dI v_self.2.2.1), .da ((dL (dL dI)) v_self.2.2.2), .rf l_self_least]), (l_self_least, .ls (List.map (dL dI) v_self_least))]
abbrev sm_Costs_first_pairs : Stmt := inClass (topS 5) 5
abbrev N_m_Costs_first_pairs : List Str := ["self", "pairs", "mask", "i", "j"]
theorem sc_m_Costs_first_pairs : FnScope N_m_Costs_first_pairs ["self"] (defScope sm_Costs_first_pairs) := ⟨rfl, rfl, rfl, by decide +kernel, rfl, by decide +kernel, by decide +kernel⟩
noncomputable def m_least_change (v_one : (List (List Int))) (v_other : (List (List Int))) (v_price : Int) : Option ((Int × (List (Int × Int)))) :=
  ((m_Costs_init v_one v_other v_price).bind fun (c1, c2) => ((getI c2 (0 : Int)).bind fun t7 => ((getI t7 (0 : Int)).bind fun t9 => ((m_Costs_first_pairs c1 c2).bind fun t11 => some (t9, t11)))))
def pf_m_least_change : Pf := fun as m R => ∃ (v_one : (List (List Int))) (v_other : (List (List Int))) (v_price : Int) (r_ : (Int × (List (Int × Int)))), m_least_change v_one v_other v_price = some r_ ∧ as = [.da ((dL (dU dI)) v_one), .da ((dL (dU dI)) v_other), .da (dI v_price)] ∧ m = [] ∧ R = fun c m2 => c = .da ((dP dI (dL (dP dI dI))) r_) ∧ m2 = []
abbrev sm_least_change : Stmt := topS 6
abbrev N_m_least_change : List Str := ["one", "other", "price", "costs"]
theorem sc_m_least_change : FnScope N_m_least_change ["one", "other", "price"] (defScope sm_least_change) := ⟨rfl, rfl, rfl, by decide +kernel, rfl, by decide +kernel, by decide +kernel⟩
noncomputable def m_bounds_between (v_one : (List (List Int))) (v_other : (List (List Int))) (v_price : Int) (v_pairs : (List (Int × Int))) : Option ((List (Int × Int × Int))) :=
  ((some (List.length v_one : Int)).bind fun v_many1 => ((dictP v_pairs).bind fun d4 => ((lenG (List.length v_pairs)).bind fun u7 => ((some (List.map (fun (p_ : (Int × Int)) => (fun (v_i6 : Int) (v_j6 : Int) => v_j6) p_.1 p_.2) v_pairs)).bind fun v_taken9 => ((rngG 0 v_many1).bind fun rg12 => ((forF (fun (s_ : (List (Int × Int × Int))) => (fun (v_i14 : Int) => (fun (c81 : (List (Int × Int × Int))) => ((lenG (List.length c81)).bind fun u146 => ((rngG 0 (List.length v_other : Int)).bind fun rg148 => ((forF (fun (s_ : (List (Int × Int × Int))) => (fun (v_j150 : Int) => (fun (c161 : (List (Int × Int × Int))) => ((getI v_one v_i14).bind fun t170 => ((getI v_other v_j150).bind fun t172 => ((m_apart t170 t172).bind fun t174 => ((lenG (List.length c161)).bind fun u176 => some (c161 ++ [((((1 : Int) + v_many1) + v_j150), ((1 : Int) + v_i14), t174)])))))) s_)) (c81 ++ [((0 : Int), ((1 : Int) + v_i14), v_price)]) rg148).bind fun c178 => ((cond ((dget d4 v_i14).isSome) (((dget d4 v_i14).bind fun t194 => ((getI v_one v_i14).bind fun t196 => ((dget d4 v_i14).bind fun t198 => ((getI v_other t198).bind fun t200 => ((m_apart t196 t200).bind fun t202 => ((lenG (List.length c178)).bind fun u204 => some (c178 ++ [(((1 : Int) + v_i14), (((1 : Int) + v_many1) + t194), ((0 : Int) - t202))])))))))) (((lenG (List.length c178)).bind fun u206 => some (c178 ++ [(((1 : Int) + v_i14), (0 : Int), ((0 : Int) - v_price))])))).bind fun c193 => some c193))))) s_)) ([] : (List (Int × Int × Int))) rg12).bind fun c210 => ((rngG 0 (List.length v_other : Int)).bind fun rg211 => ((forF (fun (s_ : (List (Int × Int × Int))) => (fun (v_j213 : Int) => (fun (c224 : (List (Int × Int × Int))) => ((lenG (List.length c224)).bind fun u233 => ((cond (!memB v_j213 v_taken9) (((lenG (List.length (c224 ++ [((((1 : Int) + v_many1) + v_j213), (0 : Int), v_price)]))).bind fun u238 => some ((c224 ++ [((((1 : Int) + v_many1) + v_j213), (0 : Int), v_price)]) ++ [((0 : Int), (((1 : Int) + v_many1) + v_j213), ((0 : Int) - v_price))]))) (some (c224 ++ [((((1 : Int) + v_many1) + v_j213), (0 : Int), v_price)]))).bind fun c237 => some c237))) s_)) c210 rg211).bind fun c241 => some c241))))))))
def pf_m_bounds_between : Pf := fun as m R => ∃ (v_one : (List (List Int))) (v_other : (List (List Int))) (v_price : Int) (v_pairs : (List (Int × Int))) (r_ : (List (Int × Int × Int))), m_bounds_between v_one v_other v_price v_pairs = some r_ ∧ as = [.da ((dL (dU dI)) v_one), .da ((dL (dU dI)) v_other), .da (dI v_price), .da ((dL (dP dI dI)) v_pairs)] ∧ m = [] ∧ R = fun c m2 => c = .da ((dL (d3 dI dI dI)) r_) ∧ m2 = []
abbrev sm_bounds_between : Stmt := topS 7
abbrev N_m_bounds_between : List Str := ["one", "other", "price", "pairs", "many", "partners", "i", "j", "taken", "rows"]
theorem sc_m_bounds_between : FnScope N_m_bounds_between ["one", "other", "price", "pairs"] (defScope sm_bounds_between) := ⟨rfl, rfl, rfl, by decide +kernel, rfl, by decide +kernel, by decide +kernel⟩
noncomputable def m_numbers_within (v_rows : (List (Int × Int × Int))) (v_many : Int) : Option ((List Int)) :=
  ((repI ([(0 : Int)] : (List Int)) v_many).bind fun t2 => ((whiL (fun (s_ : Bool × (List Int)) => (fun (v_changed4 : Bool) (c5 : (List Int)) => some v_changed4) s_.1 s_.2) (fun (s_ : Bool × (List Int)) => (fun (v_changed4 : Bool) (c5 : (List Int)) => ((forF (fun (s_ : Bool × (List Int)) => (fun (p_ : (Int × Int × Int)) => (fun (v_a44 : Int) (v_b45 : Int) (v_most46 : Int) => (fun (v_changed47 : Bool) (c48 : (List Int)) => ((getI c48 v_b45).bind fun t64 => ((getI c48 v_a44).bind fun t66 => ((cond (decide ((t66 + v_most46) < t64)) (((getI c48 v_a44).bind fun t74 => ((setI c48 v_b45 (t74 + v_most46)).bind fun c76 => some (true, c76)))) (some (v_changed47, c48))).bind fun (v_changed72, c73) => some (v_changed72, c73))))) s_.1 s_.2) p_.1 p_.2.1 p_.2.2)) (false, c5) v_rows).bind fun (v_changed79, c80) => some (v_changed79, c80))) s_.1 s_.2) (true, t2)).bind fun (v_changed82, c83) => some c83))
def pf_m_numbers_within : Pf := fun as m R => ∃ (v_rows : (List (Int × Int × Int))) (v_many : Int) (r_ : (List Int)), m_numbers_within v_rows v_many = some r_ ∧ as = [.da ((dL (d3 dI dI dI)) v_rows), .da (dI v_many)] ∧ m = [] ∧ R = fun c m2 => c = .da ((dL dI) r_) ∧ m2 = []
abbrev sm_numbers_within : Stmt := topS 8
abbrev N_m_numbers_within : List Str := ["rows", "many", "found", "changed", "a", "b", "most"]
theorem sc_m_numbers_within : FnScope N_m_numbers_within ["rows", "many"] (defScope sm_numbers_within) := ⟨rfl, rfl, rfl, by decide +kernel, rfl, by decide +kernel, by decide +kernel⟩
noncomputable def m_change_paper (v_one : (List (List Int))) (v_other : (List (List Int))) (v_price : Int) : Option (((List Int) × (List Int))) :=
  ((m_least_change v_one v_other v_price).bind fun t1 => ((some (t1).2).bind fun v_pairs3 => ((m_bounds_between v_one v_other v_price v_pairs3).bind fun t5 => ((m_numbers_within t5 (((1 : Int) + (List.length v_one : Int)) + (List.length v_other : Int))).bind fun t7 => ((getI t7 (0 : Int)).bind fun t9 => ((lenG (List.length (cutI t7 (some (1 : Int)) (some ((1 : Int) + (List.length v_one : Int)))))).bind fun u12 => ((some (List.map (fun (v_number11 : Int) => (v_number11 - t9)) (cutI t7 (some (1 : Int)) (some ((1 : Int) + (List.length v_one : Int)))))).bind fun v_own14 => ((lenG (List.length (cutI t7 (some ((1 : Int) + (List.length v_one : Int))) none))).bind fun u17 => some (v_own14, (List.map (fun (v_number16 : Int) => (t9 - v_number16)) (cutI t7 (some ((1 : Int) + (List.length v_one : Int))) none)))))))))))
def pf_m_change_paper : Pf := fun as m R => ∃ (v_one : (List (List Int))) (v_other : (List (List Int))) (v_price : Int) (r_ : ((List Int) × (List Int))), m_change_paper v_one v_other v_price = some r_ ∧ as = [.da ((dL (dU dI)) v_one), .da ((dL (dU dI)) v_other), .da (dI v_price)] ∧ m = [] ∧ R = fun c m2 => c = .da ((dP (dL dI) (dL dI)) r_) ∧ m2 = []
abbrev sm_change_paper : Stmt := topS 9
abbrev N_m_change_paper : List Str := ["one", "other", "price", "pairs", "found", "ground", "own", "number"]
theorem sc_m_change_paper : FnScope N_m_change_paper ["one", "other", "price"] (defScope sm_change_paper) := ⟨rfl, rfl, rfl, by decide +kernel, rfl, by decide +kernel, by decide +kernel⟩
noncomputable def m_is_whole (v_thing : Int) : Option (Bool) :=
  some (true && (!false))
def pf_m_is_whole : Pf := fun as m R => ∃ (v_thing : Int) (r_ : Bool), m_is_whole v_thing = some r_ ∧ as = [.da (dI v_thing)] ∧ m = [] ∧ R = fun c m2 => c = .da (dB r_) ∧ m2 = []
abbrev sm_is_whole : Stmt := topS 11
abbrev N_m_is_whole : List Str := ["thing"]
theorem sc_m_is_whole : FnScope N_m_is_whole ["thing"] (defScope sm_is_whole) := ⟨rfl, rfl, rfl, by decide +kernel, rfl, by decide +kernel, by decide +kernel⟩
noncomputable def m_is_pair_within (v_thing : (Int × Int)) (v_many : Int) (v_others : Int) : Option (Bool) :=
  ((cond (!true) (some true) (((cond (!decide ((List.length ([(v_thing).1, (v_thing).2] : List Int) : Int) = (2 : Int))) (some true) (((lenG (List.length ([(v_thing).1, (v_thing).2] : List Int))).bind fun u4 => ((mapO (fun (v_number1 : Int) => ((m_is_whole v_number1).bind fun t2 => some t2)) ([(v_thing).1, (v_thing).2] : List Int)).bind fun o6 => some (!(List.all o6 id)))))).bind fun b8 => some b8))).bind fun b10 => (cond b10 (some false) (some (((decide ((0 : Int) ≤ (v_thing).1)) && (decide ((v_thing).1 < v_many))) && ((decide ((0 : Int) ≤ (v_thing).2)) && (decide ((v_thing).2 < v_others)))))))
def pf_m_is_pair_within : Pf := fun as m R => ∃ (v_thing : (Int × Int)) (v_many : Int) (v_others : Int) (r_ : Bool), m_is_pair_within v_thing v_many v_others = some r_ ∧ as = [.da ((dP dI dI) v_thing), .da (dI v_many), .da (dI v_others)] ∧ m = [] ∧ R = fun c m2 => c = .da (dB r_) ∧ m2 = []
abbrev sm_is_pair_within : Stmt := topS 12
abbrev N_m_is_pair_within : List Str := ["thing", "many", "others", "number"]
theorem sc_m_is_pair_within : FnScope N_m_is_pair_within ["thing", "many", "others"] (defScope sm_is_pair_within) := ⟨rfl, rfl, rfl, by decide +kernel, rfl, by decide +kernel, by decide +kernel⟩
noncomputable def m_are_pairs (v_thing : (List (Int × Int))) (v_many : Int) (v_others : Int) : Option (Bool) :=
  ((cond (!true) (some true) (((lenG (List.length v_thing)).bind fun u4 => ((mapO (fun (v_pair1 : (Int × Int)) => ((m_is_pair_within v_pair1 v_many v_others).bind fun t2 => some t2)) v_thing).bind fun o6 => some (!(List.all o6 id)))))).bind fun b8 => (cond b8 (some false) (((rngG 0 ((List.length v_thing : Int) - (1 : Int))).bind fun rg10 => ((lenG (List.length rg10)).bind fun u17 => ((mapO (fun (v_k12 : Int) => ((getI v_thing v_k12).bind fun t13 => ((getI v_thing (v_k12 + (1 : Int))).bind fun t15 => some (decide ((t13).1 < (t15).1))))) rg10).bind fun o19 => (cond (!(List.all o19 id)) (some false) (((lenG (List.length v_thing)).bind fun u22 => ((some (List.map (fun (p_ : (Int × Int)) => (fun (v_i21 : Int) (v_j21 : Int) => v_j21) p_.1 p_.2) v_thing)).bind fun v_taken24 => ((setG v_taken24).bind fun t26 => some (decide (t26 = (List.length v_taken24 : Int))))))))))))))
def pf_m_are_pairs : Pf := fun as m R => ∃ (v_thing : (List (Int × Int))) (v_many : Int) (v_others : Int) (r_ : Bool), m_are_pairs v_thing v_many v_others = some r_ ∧ as = [.da ((dL (dP dI dI)) v_thing), .da (dI v_many), .da (dI v_others)] ∧ m = [] ∧ R = fun c m2 => c = .da (dB r_) ∧ m2 = []
abbrev sm_are_pairs : Stmt := topS 13
abbrev N_m_are_pairs : List Str := ["thing", "many", "others", "taken", "i", "j", "k", "pair"]
theorem sc_m_are_pairs : FnScope N_m_are_pairs ["thing", "many", "others"] (defScope sm_are_pairs) := ⟨rfl, rfl, rfl, by decide +kernel, rfl, by decide +kernel, by decide +kernel⟩
noncomputable def m_are_prices (v_thing : (List Int)) (v_many : Int) (v_price : Int) : Option (Bool) :=
  (cond ((!true) || (!decide ((List.length v_thing : Int) = v_many))) (some false) (((lenG (List.length v_thing)).bind fun u4 => ((mapO (fun (v_number1 : Int) => ((m_is_whole v_number1).bind fun t2 => some (t2 && (decide (v_number1 ≤ v_price))))) v_thing).bind fun o6 => some (List.all o6 id)))))
def pf_m_are_prices : Pf := fun as m R => ∃ (v_thing : (List Int)) (v_many : Int) (v_price : Int) (r_ : Bool), m_are_prices v_thing v_many v_price = some r_ ∧ as = [.da ((dL dI) v_thing), .da (dI v_many), .da (dI v_price)] ∧ m = [] ∧ R = fun c m2 => c = .da (dB r_) ∧ m2 = []
abbrev sm_are_prices : Stmt := topS 14
abbrev N_m_are_prices : List Str := ["thing", "many", "price", "number"]
theorem sc_m_are_prices : FnScope N_m_are_prices ["thing", "many", "price"] (defScope sm_are_prices) := ⟨rfl, rfl, rfl, by decide +kernel, rfl, by decide +kernel, by decide +kernel⟩
noncomputable def m_shows_change (v_one : (List (List Int))) (v_other : (List (List Int))) (v_price : Int) (v_pairs : (List (Int × Int))) (v_paper : ((List Int) × (List Int))) : Option (Bool) :=
  ((m_are_pairs v_pairs (List.length v_one : Int) (List.length v_other : Int)).bind fun t1 => (cond (!t1) (some false) ((cond ((!true) || (!decide ((List.length ([(v_paper).1, (v_paper).2] : List (List Int)) : Int) = (2 : Int)))) (some false) (((m_are_prices (v_paper).1 (List.length v_one : Int) v_price).bind fun t3 => ((cond (!t3) (some true) (((m_are_prices (v_paper).2 (List.length v_other : Int) v_price).bind fun t5 => some (!t5)))).bind fun b7 => (cond b7 (some false) (((forC (R := Bool) (fun (s_ : Unit) => (fun (p_ : ((List Int) × Int)) => (fun (v_colour9 : (List Int)) (v_own10 : Int) => ((lenG (List.length (List.zip v_other (v_paper).2))).bind fun u21 => ((mapO (fun (p_ : ((List Int) × Int)) => (fun (v_third18 : (List Int)) (v_more18 : Int) => ((m_apart v_colour9 v_third18).bind fun t19 => some (decide ((v_own10 + v_more18) ≤ t19)))) p_.1 p_.2) (List.zip v_other (v_paper).2)).bind fun o23 => (cond (!(List.all o23 id)) (some (Ctl.rt false)) (some (Ctl.nx ())))))) p_.1 p_.2)) () (List.zip v_one (v_paper).1)).bind fun k29 => ctlK k29 (fun (_ : Unit) => ((m_cost_of v_one v_other v_price v_pairs).bind fun t25 => some (decide (((List.sum (v_paper).1) + (List.sum (v_paper).2)) = t25)))) (fun r_ => some r_)))))))))))
def pf_m_shows_change : Pf := fun as m R => ∃ (v_one : (List (List Int))) (v_other : (List (List Int))) (v_price : Int) (v_pairs : (List (Int × Int))) (v_paper : ((List Int) × (List Int))) (r_ : Bool), m_shows_change v_one v_other v_price v_pairs v_paper = some r_ ∧ as = [.da ((dL (dU dI)) v_one), .da ((dL (dU dI)) v_other), .da (dI v_price), .da ((dL (dP dI dI)) v_pairs), .da ((dP (dL dI) (dL dI)) v_paper)] ∧ m = [] ∧ R = fun c m2 => c = .da (dB r_) ∧ m2 = []
abbrev sm_shows_change : Stmt := topS 15
abbrev N_m_shows_change : List Str := ["one", "other", "price", "pairs", "paper", "colour", "own", "third", "more"]
theorem sc_m_shows_change : FnScope N_m_shows_change ["one", "other", "price", "pairs", "paper"] (defScope sm_shows_change) := ⟨rfl, rfl, rfl, by decide +kernel, rfl, by decide +kernel, by decide +kernel⟩
noncomputable def m_law_mix (v_cell : Int) (v_k : Int) : Option (Int) :=
  ((modG v_cell (2147483629 : Int)).bind fun t1 => ((mulG v_k v_k).bind fun t3 => ((mulG t3 (7919 : Int)).bind fun t5 => ((mulG ((t1 + t5) + (11 : Int)) (48271 : Int)).bind fun t7 => ((modG t7 (2147483647 : Int)).bind fun t9 => ((mulG t9 t9).bind fun t11 => ((modG t11 (1999999973 : Int)).bind fun t13 => some t13)))))))
def pf_m_law_mix : Pf := fun as m R => ∃ (v_cell : Int) (v_k : Int) (r_ : Int), m_law_mix v_cell v_k = some r_ ∧ as = [.da (dI v_cell), .da (dI v_k)] ∧ m = [] ∧ R = fun c m2 => c = .da (dI r_) ∧ m2 = []
abbrev sm_law_mix : Stmt := topS 17
abbrev N_m_law_mix : List Str := ["cell", "k", "m"]
theorem sc_m_law_mix : FnScope N_m_law_mix ["cell", "k"] (defScope sm_law_mix) := ⟨rfl, rfl, rfl, by decide +kernel, rfl, by decide +kernel, by decide +kernel⟩
noncomputable def m_law_left (v_script : (List Int)) (v_k : Int) : Option ((List Int)) :=
  ((cond (decide (v_k < (List.length v_script : Int))) (((getI v_script v_k).bind fun t1 => some t1)) (some (0 : Int))).bind fun t3 => ((mulG (absI t3) (b2 (decide ((1000000000000000000 : Int) ≤ (absI t3))))).bind fun t5 => ((mulG (1000003 : Int) v_k).bind fun t7 => some ([t5, (t3 + t7), (0 : Int)] : (List Int)))))
def pf_m_law_left : Pf := fun as m R => ∃ (l_script : Addr) (v_script : (List Int)) (v_k : Int) (r_ : (List Int)), m_law_left v_script v_k = some r_ ∧ as = [.sl l_script v_script, .da (dI v_k)] ∧ m = [] ∧ R = fun c m2 => ∃ p, c = .rf p ∧ m2 = [(p, .ls (List.map dI r_))]
abbrev sm_law_left : Stmt := topS 18
abbrev N_m_law_left : List Str := ["script", "k", "cell"]
theorem sc_m_law_left : FnScope N_m_law_left ["script", "k"] (defScope sm_law_left) := ⟨rfl, rfl, rfl, by decide +kernel, rfl, by decide +kernel, by decide +kernel⟩
noncomputable def m_law_pick (v_left : (List Int)) (v_many : Int) : Option (Int × (List Int)) :=
  ((getI v_left (2 : Int)).bind fun t1 => ((setI v_left (2 : Int) (t1 + (1 : Int))).bind fun c3 => ((getI c3 (0 : Int)).bind fun t5 => (cond (decide ((0 : Int) < t5)) (((getI c3 (0 : Int)).bind fun t7 => ((modG t7 v_many).bind fun t9 => ((getI c3 (0 : Int)).bind fun t11 => ((fdivG t11 v_many).bind fun t13 => ((setI c3 (0 : Int) t13).bind fun c15 => some (t9, c15))))))) (((getI c3 (1 : Int)).bind fun t17 => ((getI c3 (2 : Int)).bind fun t19 => ((m_law_mix t17 t19).bind fun t21 => ((getI c3 (2 : Int)).bind fun t23 => ((m_law_mix t21 (t23 + (64 : Int))).bind fun t25 => ((fdivG t25 (64 : Int)).bind fun t27 => ((modG t27 v_many).bind fun t29 => some (t29, c3)))))))))))))
def pf_m_law_pick : Pf := fun as m R => ∃ (l_left : Addr) (v_left : (List Int)) (v_many : Int) (r_ : Int) (w_left : (List Int)), m_law_pick v_left v_many = some (r_, w_left) ∧ as = [.rf l_left, .da (dI v_many)] ∧ m = [(l_left, .ls (List.map dI v_left))] ∧ R = fun c m2 => c = .da (dI r_) ∧ m2 = [(l_left, .ls (List.map dI w_left))]
abbrev sm_law_pick : Stmt := topS 19
abbrev N_m_law_pick : List Str := ["left", "many", "digit"]
theorem sc_m_law_pick : FnScope N_m_law_pick ["left", "many"] (defScope sm_law_pick) := ⟨rfl, rfl, rfl, by decide +kernel, rfl, by decide +kernel, by decide +kernel⟩
noncomputable def m_law_kind (v_left : (List Int)) : Option ((Int × Int) × (List Int)) :=
  ((m_law_pick v_left (8 : Int)).bind fun (t1, c2) => ((getI ([(1 : Int), (2 : Int), (3 : Int), (3 : Int), (3 : Int), (4 : Int), (5 : Int), (2 : Int)] : (List Int)) t1).bind fun t4 => ((m_law_pick c2 (6 : Int)).bind fun (t6, c7) => ((getI ([(3 : Int), (6 : Int), (20 : Int), (256 : Int), (1000 : Int), (10 : Int)] : (List Int)) t6).bind fun t9 => some ((t4, t9), c7)))))
def pf_m_law_kind : Pf := fun as m R => ∃ (l_left : Addr) (v_left : (List Int)) (r_ : (Int × Int)) (w_left : (List Int)), m_law_kind v_left = some (r_, w_left) ∧ as = [.rf l_left] ∧ m = [(l_left, .ls (List.map dI v_left))] ∧ R = fun c m2 => c = .da ((dP dI dI) r_) ∧ m2 = [(l_left, .ls (List.map dI w_left))]
abbrev sm_law_kind : Stmt := topS 20
abbrev N_m_law_kind : List Str := ["left"]
theorem sc_m_law_kind : FnScope N_m_law_kind ["left"] (defScope sm_law_kind) := ⟨rfl, rfl, rfl, by decide +kernel, rfl, by decide +kernel, by decide +kernel⟩
noncomputable def m_law_colour (v_left : (List Int)) (v_kind : (Int × Int)) : Option ((List Int) × (List Int)) :=
  ((rngG 0 (v_kind).1).bind fun rg1 => ((lenG (List.length rg1)).bind fun u12 => ((mapS (fun (s_ : (List Int)) => (fun (v_place3 : Int) => (fun (s16 : (List Int)) => ((m_law_pick s16 (v_kind).2).bind fun (t17, c18) => ((m_law_pick c18 (8 : Int)).bind fun (t20, c21) => ((getI ([t17, (999 : Int)] : (List Int)) (b2 (decide (t20 = (0 : Int))))).bind fun t23 => some (t23, c21))))) s_)) v_left rg1).bind fun (o15, c14) => some (o15, c14))))
def pf_m_law_colour : Pf := fun as m R => ∃ (l_left : Addr) (v_left : (List Int)) (v_kind : (Int × Int)) (r_ : (List Int)) (w_left : (List Int)), m_law_colour v_left v_kind = some (r_, w_left) ∧ as = [.rf l_left, .da ((dP dI dI) v_kind)] ∧ m = [(l_left, .ls (List.map dI v_left))] ∧ R = fun c m2 => c = .da ((dU dI) r_) ∧ m2 = [(l_left, .ls (List.map dI w_left))]
abbrev sm_law_colour : Stmt := topS 21
abbrev N_m_law_colour : List Str := ["left", "kind", "wide", "span", "place"]
theorem sc_m_law_colour : FnScope N_m_law_colour ["left", "kind"] (defScope sm_law_colour) := ⟨rfl, rfl, rfl, by decide +kernel, rfl, by decide +kernel, by decide +kernel⟩
noncomputable def m_law_apart (v_one : (List Int)) (v_other : (List Int)) : Option (Int) :=
  ((lenG (List.length (List.zip v_one v_other))).bind fun u4 => ((mapO (fun (p_ : (Int × Int)) => (fun (v_a1 : Int) (v_b1 : Int) => ((mulG (v_a1 - v_b1) (v_a1 - v_b1)).bind fun t2 => some t2)) p_.1 p_.2) (List.zip v_one v_other)).bind fun o6 => some (List.sum o6)))
def pf_m_law_apart : Pf := fun as m R => ∃ (v_one : (List Int)) (v_other : (List Int)) (r_ : Int), m_law_apart v_one v_other = some r_ ∧ as = [.da ((dU dI) v_one), .da ((dU dI) v_other)] ∧ m = [] ∧ R = fun c m2 => c = .da (dI r_) ∧ m2 = []
abbrev sm_law_apart : Stmt := topS 22
abbrev N_m_law_apart : List Str := ["one", "other", "a", "b"]
theorem sc_m_law_apart : FnScope N_m_law_apart ["one", "other"] (defScope sm_law_apart) := ⟨rfl, rfl, rfl, by decide +kernel, rfl, by decide +kernel, by decide +kernel⟩
noncomputable def m_law_few (v_left : (List Int)) (v_kind : (Int × Int)) (v_most : Int) : Option ((List (List Int)) × (List Int)) :=
  ((m_law_pick v_left v_most).bind fun (t2, c3) => ((rngG 0 ((1 : Int) + t2)).bind fun rg5 => ((forF (fun (s_ : (List Int) × (List (List Int))) => (fun (v_k7 : Int) => (fun (c8 : (List Int)) (c9 : (List (List Int))) => ((m_law_colour c8 v_kind).bind fun (t34, c35) => ((cond (!decide (c9 = ([] : (List (List Int))))) (((m_law_pick c35 (5 : Int)).bind fun (t37, c38) => some ((decide (t37 = (0 : Int))), c38))) (some (false, c35))).bind fun (b40, c41) => ((cond b40 (((m_law_pick c41 (List.length c9 : Int)).bind fun (t50, c51) => ((getI c9 t50).bind fun t53 => some (t53, c51)))) (some (t34, c41))).bind fun (v_colour48, c49) => ((lenG (List.length c9)).bind fun u56 => some (c49, (c9 ++ [v_colour48]))))))) s_.1 s_.2)) (c3, ([] : (List (List Int)))) rg5).bind fun (c58, c59) => some (c59, c58))))
def pf_m_law_few : Pf := fun as m R => ∃ (l_left : Addr) (v_left : (List Int)) (v_kind : (Int × Int)) (v_most : Int) (r_ : (List (List Int))) (w_left : (List Int)), m_law_few v_left v_kind v_most = some (r_, w_left) ∧ as = [.rf l_left, .da ((dP dI dI) v_kind), .da (dI v_most)] ∧ m = [(l_left, .ls (List.map dI v_left))] ∧ R = fun c m2 => ∃ p, c = .rf p ∧ m2 = [(l_left, .ls (List.map dI w_left)), (p, .ls (List.map (dU dI) r_))]
abbrev sm_law_few : Stmt := topS 23
abbrev N_m_law_few : List Str := ["left", "kind", "most", "found", "k", "colour"]
theorem sc_m_law_few : FnScope N_m_law_few ["left", "kind", "most"] (defScope sm_law_few) := ⟨rfl, rfl, rfl, by decide +kernel, rfl, by decide +kernel, by decide +kernel⟩
noncomputable def m_law_two (v_left : (List Int)) (v_most : Int) : Option (((List (List Int)) × (List (List Int))) × (List Int)) :=
  ((m_law_kind v_left).bind fun (t1, c2) => ((m_law_few c2 t1 v_most).bind fun (c4, c5) => ((m_law_few c5 t1 v_most).bind fun (c7, c8) => ((rngG 0 (List.length c7 : Int)).bind fun rg12 => ((forF (fun (s_ : (List Int) × (List (List Int))) => (fun (v_k14 : Int) => (fun (c15 : (List Int)) (c16 : (List (List Int))) => ((m_law_pick c15 (4 : Int)).bind fun (t37, c38) => ((cond (decide (t37 = (0 : Int))) (((m_law_pick c38 (List.length c4 : Int)).bind fun (t49, c50) => ((getI c4 t49).bind fun t52 => ((setI c16 v_k14 t52).bind fun c54 => some (c50, c54))))) (some (c38, c16))).bind fun (c47, c48) => some (c47, c48)))) s_.1 s_.2)) (c8, c7) rg12).bind fun (c57, c58) => some ((c4, c58), c57))))))
def pf_m_law_two : Pf := fun as m R => ∃ (l_left : Addr) (v_left : (List Int)) (v_most : Int) (r_ : ((List (List Int)) × (List (List Int)))) (w_left : (List Int)), m_law_two v_left v_most = some (r_, w_left) ∧ as = [.rf l_left, .da (dI v_most)] ∧ m = [(l_left, .ls (List.map dI v_left))] ∧ R = fun c m2 => c = .da ((dP (dL (dU dI)) (dL (dU dI))) r_) ∧ m2 = [(l_left, .ls (List.map dI w_left))]
abbrev sm_law_two : Stmt := topS 24
abbrev N_m_law_two : List Str := ["left", "most", "kind", "one", "other", "k"]
theorem sc_m_law_two : FnScope N_m_law_two ["left", "most"] (defScope sm_law_two) := ⟨rfl, rfl, rfl, by decide +kernel, rfl, by decide +kernel, by decide +kernel⟩
noncomputable def m_law_price (v_left : (List Int)) (v_one : (List (List Int))) (v_other : (List (List Int))) : Option (Int × (List Int)) :=
  ((m_law_pick v_left (List.length v_one : Int)).bind fun (t1, c2) => ((m_law_pick c2 (List.length v_other : Int)).bind fun (t4, c5) => ((getI v_one t1).bind fun t7 => ((getI v_other t4).bind fun t9 => ((m_law_apart t7 t9).bind fun t11 => ((m_law_pick c5 (20 : Int)).bind fun (t13, c14) => ((fdivG t11 (2 : Int)).bind fun t16 => ((m_law_pick c14 (3 : Int)).bind fun (t18, c19) => ((some ([(0 : Int), ((1 : Int) + t13), (t16 + t18)] : (List Int))).bind fun v_some21 => ((m_law_pick c19 (100000 : Int)).bind fun (t23, c24) => ((lenG (List.length v_some21 + List.length ([t11, t23, (10000000 : Int)] : (List Int)))).bind fun u26 => ((some (v_some21 ++ ([t11, t23, (10000000 : Int)] : (List Int)))).bind fun v_some28 => ((m_law_pick c24 (6 : Int)).bind fun (t30, c31) => ((getI v_some28 t30).bind fun t33 => some ((min2 (10000000 : Int) t33), c31)))))))))))))))
def pf_m_law_price : Pf := fun as m R => ∃ (l_left : Addr) (v_left : (List Int)) (v_one : (List (List Int))) (v_other : (List (List Int))) (r_ : Int) (w_left : (List Int)), m_law_price v_left v_one v_other = some (r_, w_left) ∧ as = [.rf l_left, .da ((dL (dU dI)) v_one), .da ((dL (dU dI)) v_other)] ∧ m = [(l_left, .ls (List.map dI v_left))] ∧ R = fun c m2 => c = .da (dI r_) ∧ m2 = [(l_left, .ls (List.map dI w_left))]
abbrev sm_law_price : Stmt := topS 25
abbrev N_m_law_price : List Str := ["left", "one", "other", "i", "j", "near", "some"]
theorem sc_m_law_price : FnScope N_m_law_price ["left", "one", "other"] (defScope sm_law_price) := ⟨rfl, rfl, rfl, by decide +kernel, rfl, by decide +kernel, by decide +kernel⟩
noncomputable def m_law_cost (v_one : (List (List Int))) (v_other : (List (List Int))) (v_price : Int) (v_pairs : (List (Int × Int))) : Option (Int) :=
  ((lenG (List.length v_pairs)).bind fun u8 => ((mapO (fun (p_ : (Int × Int)) => (fun (v_i1 : Int) (v_j1 : Int) => ((getI v_one v_i1).bind fun t2 => ((getI v_other v_j1).bind fun t4 => ((m_law_apart t2 t4).bind fun t6 => some t6)))) p_.1 p_.2) v_pairs).bind fun o10 => ((some (List.sum o10)).bind fun v_turned12 => ((some ((((List.length v_one : Int) - (List.length v_pairs : Int)) + (List.length v_other : Int)) - (List.length v_pairs : Int))).bind fun v_lonely14 => ((mulG v_price v_lonely14).bind fun t16 => some (v_turned12 + t16))))))
def pf_m_law_cost : Pf := fun as m R => ∃ (v_one : (List (List Int))) (v_other : (List (List Int))) (v_price : Int) (v_pairs : (List (Int × Int))) (r_ : Int), m_law_cost v_one v_other v_price v_pairs = some r_ ∧ as = [.da ((dL (dU dI)) v_one), .da ((dL (dU dI)) v_other), .da (dI v_price), .da ((dL (dP dI dI)) v_pairs)] ∧ m = [] ∧ R = fun c m2 => c = .da (dI r_) ∧ m2 = []
abbrev sm_law_cost : Stmt := topS 26
abbrev N_m_law_cost : List Str := ["one", "other", "price", "pairs", "turned", "lonely", "i", "j"]
theorem sc_m_law_cost : FnScope N_m_law_cost ["one", "other", "price", "pairs"] (defScope sm_law_cost) := ⟨rfl, rfl, rfl, by decide +kernel, rfl, by decide +kernel, by decide +kernel⟩
noncomputable def m_law_all_pairs (v_many : Int) (v_others : Int) : Option ((List (List (Int × Int)))) :=
  ((rngG 0 v_many).bind fun rg2 => ((forF (fun (s_ : (List (List (Int × Int)))) => (fun (v_i4 : Int) => (fun (c5 : (List (List (Int × Int)))) => ((forF (fun (s_ : (List (List (Int × Int)))) => (fun (v_pairs42 : (List (Int × Int))) => (fun (c43 : (List (List (Int × Int)))) => ((lenG (List.length v_pairs42)).bind fun u61 => ((some (List.map (fun (p_ : (Int × Int)) => (fun (v_k60 : Int) (v_j60 : Int) => v_j60) p_.1 p_.2) v_pairs42)).bind fun v_taken63 => ((rngG 0 v_others).bind fun rg65 => ((lenG (List.length rg65)).bind fun u70 => ((filO (fun x => some ((fun (v_j67 : Int) => (!memB v_j67 v_taken63)) x)) (fun (v_j67 : Int) => ((lenG (List.length v_pairs42 + List.length ([(v_i4, v_j67)] : (List (Int × Int))))).bind fun u68 => some (v_pairs42 ++ ([(v_i4, v_j67)] : (List (Int × Int)))))) rg65).bind fun o72 => ((lenG (List.length c43 + List.length o72)).bind fun u74 => some (c43 ++ o72)))))))) s_)) c5 c5).bind fun c76 => some c76)) s_)) ([([] : (List (Int × Int)))] : (List (List (Int × Int)))) rg2).bind fun c78 => some c78))
def pf_m_law_all_pairs : Pf := fun as m R => ∃ (v_many : Int) (v_others : Int) (r_ : (List (List (Int × Int)))), m_law_all_pairs v_many v_others = some r_ ∧ as = [.da (dI v_many), .da (dI v_others)] ∧ m = [] ∧ R = fun c m2 => c = .da ((dL (dL (dP dI dI))) r_) ∧ m2 = []
abbrev sm_law_all_pairs : Stmt := topS 27
abbrev N_m_law_all_pairs : List Str := ["many", "others", "found", "i", "pairs", "taken", "k", "j"]
theorem sc_m_law_all_pairs : FnScope N_m_law_all_pairs ["many", "others"] (defScope sm_law_all_pairs) := ⟨rfl, rfl, rfl, by decide +kernel, rfl, by decide +kernel, by decide +kernel⟩
noncomputable def m_law_drawn (v_left : (List Int)) (v_one : (List (List Int))) (v_other : (List (List Int))) (v_price : Int) (v_paper : ((List Int) × (List Int))) : Option (((List Int) × (List Int)) × (List Int)) :=
  ((m_law_pick v_left (3 : Int)).bind fun (t4, c5) => (cond (decide (t4 = (0 : Int))) (((lenG (List.length v_one)).bind fun u12 => ((mapS (fun (s_ : (List Int)) => (fun (v_colour8 : (List Int)) => (fun (s16 : (List Int)) => ((m_law_pick s16 (v_price + (50 : Int))).bind fun (t17, c18) => some ((t17 - (40 : Int)), c18))) s_)) c5 v_one).bind fun (o15, c14) => ((lenG (List.length v_other)).bind fun u26 => ((mapS (fun (s_ : (List Int)) => (fun (v_colour22 : (List Int)) => (fun (s30 : (List Int)) => ((m_law_pick s30 (v_price + (50 : Int))).bind fun (t31, c32) => some ((t31 - (40 : Int)), c32))) s_)) c14 v_other).bind fun (o29, c28) => ((m_law_pick c28 (4 : Int)).bind fun (t35, c36) => ((rngG 0 t35).bind fun rg38 => ((forF (fun (s_ : (List Int) × (List Int) × (List Int)) => (fun (v_turn40 : Int) => (fun (c70 : (List Int)) (c71 : (List Int)) (c72 : (List Int)) => ((m_law_pick c70 (List.length c71 : Int)).bind fun (t97, c98) => ((m_law_pick c98 (List.length c72 : Int)).bind fun (t100, c101) => ((m_law_pick c101 (4 : Int)).bind fun (t103, c104) => ((getI ([(1 : Int), (-(1 : Int)), (3 : Int), (-(10 : Int))] : (List Int)) t103).bind fun t106 => ((getI c71 t97).bind fun t108 => ((getI c72 t100).bind fun t110 => ((m_law_pick c104 (2 : Int)).bind fun (t112, c113) => ((getI ([t106, (0 : Int)] : (List Int)) t112).bind fun t115 => ((setI c71 t97 (((t108 + t106), (t110 - t115))).1).bind fun c117 => ((setI c72 t100 (((t108 + t106), (t110 - t115))).2).bind fun c119 => some (c113, c117, c119)))))))))))) s_.1 s_.2.1 s_.2.2)) (c36, o15, o29) rg38).bind fun (c121, c122, c123) => ((m_law_pick c121 (2 : Int)).bind fun (t124, c125) => (cond (decide (t124 = (0 : Int))) (((lenG (List.length c123)).bind fun u129 => ((forF (fun (s_ : (List Int)) => (fun (p_ : (Int × (List Int))) => (fun (v_i131 : Int) (v_colour132 : (List Int)) => (fun (c160 : (List Int)) => ((getI c160 v_i131).bind fun t182 => ((rngG 0 (List.length v_other : Int)).bind fun rg184 => ((lenG (List.length rg184)).bind fun u193 => ((mapO (fun (v_j186 : Int) => ((getI v_other v_j186).bind fun t187 => ((m_law_apart v_colour132 t187).bind fun t189 => ((getI (List.map (fun (v_number128 : Int) => (min2 v_number128 v_price)) c123) v_j186).bind fun t191 => some (t189 - t191))))) rg184).bind fun o195 => ((lenG (List.length ([t182, v_price] : (List Int)) + List.length o195)).bind fun u197 => ((minL (EncO.lt dI) (([t182, v_price] : (List Int)) ++ o195)).bind fun t199 => ((setI c160 v_i131 t199).bind fun c201 => some c201)))))))) s_) p_.1 p_.2)) c122 (enumI v_one)).bind fun c203 => some ((c203, (List.map (fun (v_number128 : Int) => (min2 v_number128 v_price)) c123)), c125)))) (some ((c122, c123), c125)))))))))))) (((m_law_pick c5 (4 : Int)).bind fun (t206, c207) => ((rngG 0 t206).bind fun rg209 => ((forF (fun (s_ : (List Int) × (List Int) × (List Int)) => (fun (v_turn211 : Int) => (fun (c212 : (List Int)) (c213 : (List Int)) (c214 : (List Int)) => ((m_law_pick c212 (List.length c213 : Int)).bind fun (t239, c240) => ((m_law_pick c240 (List.length c214 : Int)).bind fun (t242, c243) => ((m_law_pick c243 (4 : Int)).bind fun (t245, c246) => ((getI ([(1 : Int), (-(1 : Int)), (3 : Int), (-(10 : Int))] : (List Int)) t245).bind fun t248 => ((getI c213 t239).bind fun t250 => ((getI c214 t242).bind fun t252 => ((m_law_pick c246 (2 : Int)).bind fun (t254, c255) => ((getI ([t248, (0 : Int)] : (List Int)) t254).bind fun t257 => ((setI c213 t239 (((t250 + t248), (t252 - t257))).1).bind fun c259 => ((setI c214 t242 (((t250 + t248), (t252 - t257))).2).bind fun c261 => some (c255, c259, c261)))))))))))) s_.1 s_.2.1 s_.2.2)) (c207, (v_paper).1, (v_paper).2) rg209).bind fun (c263, c264, c265) => ((m_law_pick c263 (2 : Int)).bind fun (t266, c267) => (cond (decide (t266 = (0 : Int))) (((lenG (List.length c265)).bind fun u271 => ((forF (fun (s_ : (List Int)) => (fun (p_ : (Int × (List Int))) => (fun (v_i273 : Int) (v_colour274 : (List Int)) => (fun (c300 : (List Int)) => ((getI c300 v_i273).bind fun t322 => ((rngG 0 (List.length v_other : Int)).bind fun rg324 => ((lenG (List.length rg324)).bind fun u333 => ((mapO (fun (v_j326 : Int) => ((getI v_other v_j326).bind fun t327 => ((m_law_apart v_colour274 t327).bind fun t329 => ((getI (List.map (fun (v_number270 : Int) => (min2 v_number270 v_price)) c265) v_j326).bind fun t331 => some (t329 - t331))))) rg324).bind fun o335 => ((lenG (List.length ([t322, v_price] : (List Int)) + List.length o335)).bind fun u337 => ((minL (EncO.lt dI) (([t322, v_price] : (List Int)) ++ o335)).bind fun t339 => ((setI c300 v_i273 t339).bind fun c341 => some c341)))))))) s_) p_.1 p_.2)) c264 (enumI v_one)).bind fun c343 => some ((c343, (List.map (fun (v_number270 : Int) => (min2 v_number270 v_price)) c265)), c267)))) (some ((c264, c265), c267))))))))))
def pf_m_law_drawn : Pf := fun as m R => ∃ (l_left : Addr) (v_left : (List Int)) (v_one : (List (List Int))) (v_other : (List (List Int))) (v_price : Int) (v_paper : ((List Int) × (List Int))) (r_ : ((List Int) × (List Int))) (w_left : (List Int)), m_law_drawn v_left v_one v_other v_price v_paper = some (r_, w_left) ∧ as = [.rf l_left, .da ((dL (dU dI)) v_one), .da ((dL (dU dI)) v_other), .da (dI v_price), .da ((dP (dL dI) (dL dI)) v_paper)] ∧ m = [(l_left, .ls (List.map dI v_left))] ∧ R = fun c m2 => c = .da ((dP (dL dI) (dL dI)) r_) ∧ m2 = [(l_left, .ls (List.map dI w_left))]
abbrev sm_law_drawn : Stmt := topS 28
abbrev N_m_law_drawn : List Str := ["left", "one", "other", "price", "paper", "own", "more", "colour", "turn", "i", "j", "step", "number"]
theorem sc_m_law_drawn : FnScope N_m_law_drawn ["left", "one", "other", "price", "paper"] (defScope sm_law_drawn) := ⟨rfl, rfl, rfl, by decide +kernel, rfl, by decide +kernel, by decide +kernel⟩
noncomputable def m_law_keeps (v_one : (List (List Int))) (v_other : (List (List Int))) (v_price : Int) (v_paper : ((List Int) × (List Int))) : Option (Bool) :=
  ((lenG (List.length (v_paper).1 + List.length (v_paper).2)).bind fun u1 => ((maxL (EncO.lt dI) ((v_paper).1 ++ (v_paper).2)).bind fun t3 => (cond (decide (v_price < t3)) (some false) (((forC (R := Bool) (fun (s_ : Unit) => (fun (p_ : (Int × (List Int))) => (fun (v_i5 : Int) (v_colour6 : (List Int)) => ((rngG 0 (List.length v_other : Int)).bind fun rg22 => ((lenG (List.length rg22)).bind fun u33 => ((mapO (fun (v_j24 : Int) => ((getI (v_paper).1 v_i5).bind fun t25 => ((getI (v_paper).2 v_j24).bind fun t27 => ((getI v_other v_j24).bind fun t29 => ((m_law_apart v_colour6 t29).bind fun t31 => some (decide (t31 < (t25 + t27)))))))) rg22).bind fun o35 => (cond (List.any o35 id) (some (Ctl.rt false)) (some (Ctl.nx ()))))))) p_.1 p_.2)) () (enumI v_one)).bind fun k39 => ctlK k39 (fun (_ : Unit) => some true) (fun r_ => some r_))))))
def pf_m_law_keeps : Pf := fun as m R => ∃ (v_one : (List (List Int))) (v_other : (List (List Int))) (v_price : Int) (v_paper : ((List Int) × (List Int))) (r_ : Bool), m_law_keeps v_one v_other v_price v_paper = some r_ ∧ as = [.da ((dL (dU dI)) v_one), .da ((dL (dU dI)) v_other), .da (dI v_price), .da ((dP (dL dI) (dL dI)) v_paper)] ∧ m = [] ∧ R = fun c m2 => c = .da (dB r_) ∧ m2 = []
abbrev sm_law_keeps : Stmt := topS 29
abbrev N_m_law_keeps : List Str := ["one", "other", "price", "paper", "own", "more", "i", "colour", "j"]
theorem sc_m_law_keeps : FnScope N_m_law_keeps ["one", "other", "price", "paper"] (defScope sm_law_keeps) := ⟨rfl, rfl, rfl, by decide +kernel, rfl, by decide +kernel, by decide +kernel⟩
noncomputable def m_law_right (v_one : (List (List Int))) (v_other : (List (List Int))) (v_price : Int) (v_paper : ((List Int) × (List Int))) (v_lists : (List (List (Int × Int)))) (v_least : Int) : Option (Bool) :=
  ((m_law_keeps v_one v_other v_price v_paper).bind fun t1 => ((some ((List.sum (v_paper).1) + (List.sum (v_paper).2))).bind fun v_total3 => (cond (t1 && (decide (v_least < v_total3))) (some false) (((forC (R := Bool) (fun (s_ : Unit) => (fun (v_pairs5 : (List (Int × Int))) => ((m_law_cost v_one v_other v_price v_pairs5).bind fun t10 => ((m_shows_change v_one v_other v_price v_pairs5 v_paper).bind fun t12 => (cond ((!true) || ((!decide (t12 = (t1 && (decide (t10 = v_total3))))) || (t12 && (!decide (t10 = v_least))))) (some (Ctl.rt false)) (some (Ctl.nx ()))))))) () v_lists).bind fun k16 => ctlK k16 (fun (_ : Unit) => some true) (fun r_ => some r_))))))
def pf_m_law_right : Pf := fun as m R => ∃ (v_one : (List (List Int))) (v_other : (List (List Int))) (v_price : Int) (v_paper : ((List Int) × (List Int))) (v_lists : (List (List (Int × Int)))) (v_least : Int) (r_ : Bool), m_law_right v_one v_other v_price v_paper v_lists v_least = some r_ ∧ as = [.da ((dL (dU dI)) v_one), .da ((dL (dU dI)) v_other), .da (dI v_price), .da ((dP (dL dI) (dL dI)) v_paper), .da ((dL (dL (dP dI dI))) v_lists), .da (dI v_least)] ∧ m = [] ∧ R = fun c m2 => c = .da (dB r_) ∧ m2 = []
abbrev sm_law_right : Stmt := topS 30
abbrev N_m_law_right : List Str := ["one", "other", "price", "paper", "lists", "least", "kept", "total", "pairs", "cost", "found"]
theorem sc_m_law_right : FnScope N_m_law_right ["one", "other", "price", "paper", "lists", "least"] (defScope sm_law_right) := ⟨rfl, rfl, rfl, by decide +kernel, rfl, by decide +kernel, by decide +kernel⟩
noncomputable def m_law (v_script : (List Int)) : Option (Bool) :=
  ((rngG 0 (max2 (1 : Int) (min2 (List.length v_script : Int) (2 : Int)))).bind fun rg1 => ((forC (R := Bool) (fun (s_ : Unit) => (fun (v_k3 : Int) => ((m_law_left v_script v_k3).bind fun c65 => ((m_law_two c65 (4 : Int)).bind fun (t67, c68) => ((m_law_price c68 (t67).1 (t67).2).bind fun (t70, c71) => ((m_law_all_pairs (List.length (t67).1 : Int) (List.length (t67).2 : Int)).bind fun t73 => ((lenG (List.length t73)).bind fun u78 => ((mapO (fun (v_pairs75 : (List (Int × Int))) => ((m_law_cost (t67).1 (t67).2 t70 v_pairs75).bind fun t76 => some t76)) t73).bind fun o80 => ((minL (EncO.lt dI) o80).bind fun t82 => ((m_change_paper (t67).1 (t67).2 t70).bind fun t84 => ((cond (!decide (((List.sum (t84).1) + (List.sum (t84).2)) = t82)) (some true) (((m_law_right (t67).1 (t67).2 t70 t84 t73 t82).bind fun t86 => some (!t86)))).bind fun b88 => (cond b88 (some (Ctl.rt false)) (((m_least_change (t67).1 (t67).2 t70).bind fun t90 => ((lenG (List.length (t90).2)).bind fun u93 => ((some (List.map (fun (p_ : (Int × Int)) => (fun (v_i92 : Int) (v_j92 : Int) => (v_j92, v_i92)) p_.1 p_.2) (t90).2)).bind fun v_about95 => ((m_shows_change (t67).2 (t67).1 t70 (srt (EncO.lt (dP dI dI)) v_about95) ((t84).2, (t84).1)).bind fun t97 => (cond (!decide (t97 = true)) (some (Ctl.rt false)) (((rngG 0 (20 : Int)).bind fun rg99 => ((forC (R := Bool) (fun (s_ : (List Int)) => (fun (v_turn101 : Int) => (fun (c102 : (List Int)) => ((m_law_drawn c102 (t67).1 (t67).2 t70 t84).bind fun (t112, c113) => ((modG v_turn101 (3 : Int)).bind fun t115 => ((stpI t73 (some t115) none (3 : Int)).bind fun t117 => ((m_law_right (t67).1 (t67).2 t70 t112 t117 t82).bind fun t119 => (cond (!t119) (some (Ctl.rt false)) (some (Ctl.nx c113)))))))) s_)) c71 rg99).bind fun k123 => ctlK k123 (fun (s_ : (List Int)) => (fun (c121 : (List Int)) => some (Ctl.nx ())) s_) (fun r_ => some (Ctl.rt r_))))))))))))))))))))))) () rg1).bind fun k126 => ctlK k126 (fun (_ : Unit) => some true) (fun r_ => some r_)))
def pf_m_law : Pf := fun as m R => ∃ (l_script : Addr) (v_script : (List Int)) (r_ : Bool), m_law v_script = some r_ ∧ as = [.sl l_script v_script] ∧ m = [] ∧ R = fun c m2 => c = .da (dB r_) ∧ m2 = []
abbrev sm_law : Stmt := topS 31
abbrev N_m_law : List Str := ["script", "k", "left", "one", "other", "price", "lists", "least", "paper", "about", "turn", "drawn", "i", "j", "pairs"]
theorem sc_m_law : FnScope N_m_law ["script"] (defScope sm_law) := ⟨rfl, rfl, rfl, by decide +kernel, rfl, by decide +kernel, by decide +kernel⟩
end K92
set_option maxHeartbeats 2000000
namespace K92
open PySem PySem.Spec PyProof.Rows L2 Evl FC
theorem ok_m_apart {P : Program} {w : World} {K : PySem.W.Frag} {mg : Str → Option Value} {base : Heap} {f : Addr} {fd : FuncData} (FF : Fun K "apart" "apart" sm_apart f fd) (n_sum : mg "sum" = none) (n_zip : mg "zip" = none) : FnOk P w K mg base CX0 1 f fd ["one", "other"] (spOf K (pf_m_apart)) := by
  refine ok_of (N := N_m_apart) FF sc_m_apart (fun as m R hG => ?_) (fun cdv A outer s H E hr => ?_)
  · obtain ⟨v_one, v_other, r_, _, rfl, _⟩ := hG
    rfl
  · have nd : (N_m_apart : List Str).Nodup := sc_m_apart.nd
    refine ⟨_, (pss_cons (ps_ret (pe_callB (kCa (r := rSum) (K := K) (cr_sum rfl) rfl) (by rfl) n_sum (by decide +kernel) (pa_cons (pe_lc (own := [("a", 2), ("b", 3)]) (g := gTup K 2 (gCons (gName 2) (gCons (gName 3) gNil))) (tt := tYes) rfl nd (kPi (r := fun K => RZ.iZipA K _) (K := K) (RZ.pi_zipA (by rfl) n_zip (pa_cons (pv 0) (pa_cons (pv 1) pa_nil))) rfl) (blkOk_by (own := [("a", 2), ("b", 3)]) (N := N_m_apart) (sc := (defScope sm_apart)) (by decide +kernel)) (fun _ _ _ _ _ => (pg_tup rfl (pgs_cons (pg_name (i := 2) nd rfl (by first | exact Or.inl rfl | exact Or.inr rfl)) (pgs_cons (pg_name (i := 3) nd rfl (by first | exact Or.inl rfl | exact Or.inr rfl)) pgs_nil)))) (fun _ _ _ _ _ => pts_nil) (fun _ _ _ _ _ => (pe_op op_mulA (pe_op op_sub (pv 2) (pv 3)) (pe_op op_sub (pv 2) (pv 3))))) pa_nil))) pss_nil), ?_⟩
    rintro as m R ⟨v_one, v_other, r_, h0, rfl, rfl, rfl⟩ F D rfl hk hfin hnx
    unfold m_apart at h0
    show Wp _ _ _ [.da ((dU dI) v_one), .da ((dU dI) v_other), .un, .un] []
    obtain ⟨u4, q5, h0⟩ := bindS h0
    obtain ⟨o6, q7, h0⟩ := bindS h0
    have e0_ := Option.some.inj h0
    subst e0_
    exact wp_retS (ev_cb (ea_cons (lc_end (lc_map (f2 := dI) (src_ZU (f := dI) (f2 := dI) (j := 2) (k := 3) (ea_cons (ev_var (i := 0) rfl) (ea_cons (ev_var (i := 1) rfl) ea_nil))) (by decide) (fun _ => True.intro) q5 q7 (by rintro ⟨v_a1, v_b1⟩ y_ hx_ h_; obtain ⟨t2, q3, h_⟩ := bindS h_; cases h_; exact (ev_op (ev_op (ev_var (i := 2) rfl) (ev_var (i := 3) rfl) rr_i) (ev_op (ev_var (i := 2) rfl) (ev_var (i := 3) rfl) rr_i) (rr_mul q3))))) ea_nil) rc_sum) hfin ⟨rfl, rfl⟩ (List.nil_sublist _)
end K92
set_option maxHeartbeats 2000000
namespace K92
open PySem PySem.Spec PyProof.Rows L2 Evl FC
theorem ok_m_cost_of {P : Program} {w : World} {K : PySem.W.Frag} {mg : Str → Option Value} {base : Heap} {f : Addr} {fd : FuncData} (FF : Fun K "cost_of" "cost_of" sm_cost_of f fd) {f_m_apart : Addr} {fd_m_apart : FuncData} (G_m_apart : FnOk P w K mg base CX0 1 f_m_apart fd_m_apart ["one", "other"] (spOf K (pf_m_apart))) (g_m_apart : mg "apart" = some (.ref f_m_apart)) (k_m_apart : PySem.W.keepIn K (.ref f_m_apart) = true) (b_m_apart : Binds K fd_m_apart ["one", "other"] []) (n_len : mg "len" = none) (n_sum : mg "sum" = none) : FnOk P w K mg base CX0 2 f fd ["one", "other", "price", "pairs"] (spOf K (pf_m_cost_of)) := by
  refine ok_of (N := N_m_cost_of) FF sc_m_cost_of (fun as m R hG => ?_) (fun cdv A outer s H E hr => ?_)
  · obtain ⟨v_one, v_other, v_price, v_pairs, r_, _, rfl, _⟩ := hG
    rfl
  · have nd : (N_m_cost_of : List Str).Nodup := sc_m_cost_of.nd
    refine ⟨_, (pss_cons (ps_set (i := 4) nd rfl (Or.inl rfl) (pe_callB (kCa (r := rSum) (K := K) (cr_sum rfl) rfl) (by rfl) n_sum (by decide +kernel) (pa_cons (pe_lc (own := [("i", 5), ("j", 6)]) (g := gTup K 2 (gCons (gName 5) (gCons (gName 6) gNil))) (tt := tYes) rfl nd (kPi (r := fun K => iList K _) (K := K) (pi_list (pv 3)) rfl) (blkOk_by (own := [("i", 5), ("j", 6)]) (N := N_m_cost_of) (sc := (defScope sm_cost_of)) (by decide +kernel)) (fun _ _ _ _ _ => (pg_tup rfl (pgs_cons (pg_name (i := 5) nd rfl (by first | exact Or.inl rfl | exact Or.inr rfl)) (pgs_cons (pg_name (i := 6) nd rfl (by first | exact Or.inl rfl | exact Or.inr rfl)) pgs_nil)))) (fun _ _ _ _ _ => pts_nil) (fun _ _ _ _ _ => (pe_call G_m_apart (hr.mono (by decide)) (by rfl) g_m_apart k_m_apart b_m_apart .nil pass0 (pa_cons (pe_ix (kIx (r := rIxL) (K := K) ix_list rfl) (pv 0) (pv 5) (fun _ _ => rfl)) (pa_cons (pe_ix (kIx (r := rIxL) (K := K) ix_list rfl) (pv 1) (pv 6) (fun _ _ => rfl)) pa_nil))))) pa_nil)))
      (pss_cons (ps_ret (pe_op op_add (pv 4) (pe_op op_mulA (pv 2) (pe_op op_sub (pe_op op_add (pe_callB (kCa (r := rLenA) (K := K) call_len_seq rfl) (by rfl) n_len (by decide +kernel) (pa_cons (pv 0) pa_nil)) (pe_callB (kCa (r := rLenA) (K := K) call_len_seq rfl) (by rfl) n_len (by decide +kernel) (pa_cons (pv 1) pa_nil))) (pe_op op_mulA pe_int (pe_callB (kCa (r := rLenA) (K := K) call_len_seq rfl) (by rfl) n_len (by decide +kernel) (pa_cons (pv 3) pa_nil))))))) pss_nil)), ?_⟩
    rintro as m R ⟨v_one, v_other, v_price, v_pairs, r_, h0, rfl, rfl, rfl⟩ F D rfl hk hfin hnx
    unfold m_cost_of at h0
    show Wp _ _ _ [.da ((dL (dU dI)) v_one), .da ((dL (dU dI)) v_other), .da (dI v_price), .da ((dL (dP dI dI)) v_pairs), .un, .un, .un] []
    obtain ⟨u8, q9, h0⟩ := bindS h0
    obtain ⟨o10, q11, h0⟩ := bindS h0
    obtain ⟨v_turned12, q13, h0⟩ := bindS h0
    refine wp_asg (i := 4) (ev_eq (f := dI) (ev_cb (ea_cons (lc_end (lc_map (f2 := dI) (src_LP (f := dI) (f2 := dI) (j := 5) (k := 6) (ev_var (i := 3) rfl)) (by decide) (fun _ => True.intro) q9 q11 (by rintro ⟨v_i1, v_j1⟩ y_ hx_ h_; obtain ⟨t2, q3, h_⟩ := bindS h_; obtain ⟨t4, q5, h_⟩ := bindS h_; obtain ⟨t6, q7, h_⟩ := bindS h_; cases h_; exact (ev_call (ea_cons (ev_op (ev_var (i := 0) rfl) (ev_var (i := 5) rfl) (rr_ixL (f := (dU dI)) q3)) (ea_cons (ev_op (ev_var (i := 1) rfl) (ev_var (i := 6) rfl) (rr_ixL (f := (dU dI)) q5)) ea_nil)) ⟨_, ⟨_, _, _, q7, rfl, rfl, rfl⟩, fun _ _ h => h⟩)))) ea_nil) rc_sum) (Option.some.inj q13)) ?_
    show Wp _ _ _ [.da ((dL (dU dI)) v_one), .da ((dL (dU dI)) v_other), .da (dI v_price), .da ((dL (dP dI dI)) v_pairs), .da (dI v_turned12), .un, .un] []
    obtain ⟨t14, q15, h0⟩ := bindS h0
    obtain ⟨t16, q17, h0⟩ := bindS h0
    have e0_ := Option.some.inj h0
    subst e0_
    exact wp_retS (ev_op (ev_var (i := 4) rfl) (ev_op (ev_var (i := 2) rfl) (ev_op (ev_op (ev_cb (ea_cons (ev_var (i := 0) rfl) ea_nil) (rc_lenL (f := (dU dI)))) (ev_cb (ea_cons (ev_var (i := 1) rfl) ea_nil) (rc_lenL (f := (dU dI)))) rr_i) (ev_op (ev_int (i := 2)) (ev_cb (ea_cons (ev_var (i := 3) rfl) ea_nil) (rc_lenL (f := (dP dI dI)))) (rr_mul q15)) rr_i) (rr_mul q17)) rr_i) hfin ⟨rfl, rfl⟩ (List.nil_sublist _)
end K92
set_option maxHeartbeats 2000000
namespace K92
open PySem PySem.Spec PyProof.Rows L2 Evl FC
theorem ok_m_ones_in {P : Program} {w : World} {K : PySem.W.Frag} {mg : Str → Option Value} {base : Heap} {f : Addr} {fd : FuncData} (FF : Fun K "ones_in" "ones_in" sm_ones_in f fd)  : FnOk P w K mg base CX0 1 f fd ["mask"] (spOf K (pf_m_ones_in)) := by
  refine ok_of (N := N_m_ones_in) FF sc_m_ones_in (fun as m R hG => ?_) (fun cdv A outer s H E hr => ?_)
  · obtain ⟨v_mask, r_, _, rfl, _⟩ := hG
    rfl
  · have nd : (N_m_ones_in : List Str).Nodup := sc_m_ones_in.nd
    refine ⟨_, (pss_cons (ps_set (i := 1) nd rfl (Or.inl rfl) pe_int)
      (pss_cons (ps_while PassesOwn.never (pt_cmpR op_gt (pv 0) pe_int (nomark _))
      (pss_cons (ps_aug (i := 1) nd rfl (Or.inl rfl) (pe_op op_mod (pv 0) pe_int) ip_add)
      (pss_cons (ps_set (i := 0) nd rfl (Or.inl rfl) (pe_op op_divA (pv 0) pe_int))
      pss_nil)))
      (pss_cons (ps_ret (pv 1)) pss_nil))), ?_⟩
    rintro as m R ⟨v_mask, r_, h0, rfl, rfl, rfl⟩ F D rfl hk hfin hnx
    unfold m_ones_in at h0
    show Wp _ _ _ [.da (dI v_mask), .un] []
    refine wp_asg (i := 1) (ev_int (i := 0)) ?_
    show Wp _ _ _ [.da (dI v_mask), .da (dI (0 : Int))] []
    obtain ⟨⟨v_many11, v_mask12⟩, q13, h0⟩ := bindS h0
    refine wp_whiL (fun (s_ : Int × Int) => [.da (dI s_.2), .da (dI s_.1)]) (fun (s_ : Int × Int) => []) q13 (.cons .rfl (.cons .rfl Wks.nil)) rfl ?_ ?_ (fun _ => ?_)
    · rintro ⟨v_many1, v_mask2⟩ b_ h_
      have e_ := Option.some.inj h_
      subst e_
      exact (et_test (ev_op (ev_var (i := 0) rfl) (ev_int (i := 0)) (rr_b (f := fun i j => decide (j < i)))))
    · rintro ⟨v_many1, v_mask2⟩ s_ hx1 h1 D1 he1 hn1 hct1
      show Wp _ _ _ [.da (dI v_mask2), .da (dI v_many1)] []
      obtain ⟨t7, q8, h1⟩ := bindS h1
      refine wp_aug (i := 1) (a := v_many1) (fi := fun i j => i + j) rfl (ev_op (ev_var (i := 0) rfl) (ev_int (i := 2)) (rr_mod q8)) ?_
      show Wp _ _ _ [.da (dI v_mask2), .da (dI (v_many1 + t7))] []
      obtain ⟨t9, q10, h1⟩ := bindS h1
      refine wp_asg (i := 0) (ev_op (ev_var (i := 0) rfl) (ev_int (i := 2)) (rr_div q10)) ?_
      show Wp _ _ _ [.da (dI t9), .da (dI (v_many1 + t7))] []
      cases h1
      exact wp_next fun σ H a => hn1 σ H (at_weak (.cons .rfl (.cons .rfl Wks.nil)) a)
    · show Wp _ _ _ [.da (dI v_mask12), .da (dI v_many11)] []
      have e0_ := Option.some.inj h0
      subst e0_
      exact wp_retS (ev_var (i := 1) rfl) hfin ⟨rfl, rfl⟩ (List.nil_sublist _)
end K92
set_option maxHeartbeats 2000000
namespace K92
open PySem PySem.Spec PyProof.Rows L2 Evl FC
theorem ok_m_Costs_free {P : Program} {w : World} {K : PySem.W.Frag} {mg : Str → Option Value} {base : Heap} {f : Addr} {fd : FuncData} (FF : Fun K "free" "Costs.free" sm_Costs_free f fd) {C_Costs : Addr} (c_Costs : Cls K C_Costs) (na_Costs_others : NoAttr K C_Costs "others") (n_range : mg "range" = none) : FnOk P w K mg base CX0 1 f fd ["self", "mask"] (spOf K (pf_m_Costs_free C_Costs)) := by
  refine ok_of (N := N_m_Costs_free) FF sc_m_Costs_free (fun as m R hG => ?_) (fun cdv A outer s H E hr => ?_)
  · obtain ⟨l_self, dx_self, l_self_least, v_self, v_self_least, v_mask, r_, _, rfl, _⟩ := hG
    rfl
  · have nd : (N_m_Costs_free : List Str).Nodup := sc_m_Costs_free.nd
    refine ⟨_, (pss_cons (ps_ret (pe_lc (own := [("j", 2)]) (g := gName 2) rfl nd (pi_range1 (by rfl) n_range (pa_cons (kPe (r := fun K => tFld K _ _) (K := K) (pe_fld (pv 0) rfl) rfl) pa_nil)) (blkOk_by (own := [("j", 2)]) (N := N_m_Costs_free) (sc := (defScope sm_Costs_free)) (by decide +kernel)) (fun _ _ _ _ _ => (pg_name (i := 2) nd rfl (by first | exact Or.inl rfl | exact Or.inr rfl))) (fun _ _ _ _ _ => pts_one (pt_cmpR op_eq (pe_op op_and (pe_op op_shr (pv 1) (pv 2)) pe_int) pe_int (nomark _))) (fun _ _ _ _ _ => (pv 2)))) pss_nil), ?_⟩
    rintro as m R ⟨l_self, dx_self, l_self_least, v_self, v_self_least, v_mask, r_, h0, rfl, rfl, rfl⟩ F D rfl hk hfin hnx
    unfold m_Costs_free at h0
    show Wp _ _ _ [.rf l_self, .da (dI v_mask), .un] [(l_self, obj C_Costs dx_self names_Costs [.da (dI v_self.1), .da (dI v_self.2.1), .da (dI v_self.2.2.1), .da ((dL (dL dI)) v_self.2.2.2), .rf l_self_least]), (l_self_least, .ls (List.map (dL dI) v_self_least))]
    obtain ⟨rg1, q2, h0⟩ := bindS h0
    obtain ⟨u6, q7, h0⟩ := bindS h0
    obtain ⟨o8, q9, h0⟩ := bindS h0
    have e0_ := Option.some.inj h0
    subst e0_
    exact wp_retS (lc_end (lc_filO (f2 := dI) (src_R1 (j := 2) (ea_cons (ev_fld 0 1 (ev_rf (i := 0) rfl) rfl rfl pa_Costs_others (Nat.le_of_ble_eq_true rfl) c_Costs na_Costs_others) ea_nil) q2) (by decide) (fun _ => True.intro) q7 q9 (by rintro v_j3 b_ hx_ h_; obtain ⟨t4, q5, h_⟩ := bindS h_; cases h_; exact (et_test (ev_op (ev_op (ev_op (ev_var (i := 1) rfl) (ev_var (i := 2) rfl) (rr_shr q5)) (ev_int (i := 1)) (rr_i (f := Builtin.bitAnd))) (ev_int (i := 0)) rr_eqI))) (by rintro v_j3 y_ hx_ hb_ h_; cases h_; exact (ev_var (i := 2) rfl)))) hfin ⟨rfl, rfl⟩ (List.Sublist.cons₂ _ (List.Sublist.cons₂ _ (List.nil_sublist _)))
end K92
set_option maxHeartbeats 2000000
namespace K92
open PySem PySem.Spec PyProof.Rows L2 Evl FC
theorem ok_m_Costs_from_here {P : Program} {w : World} {K : PySem.W.Frag} {mg : Str → Option Value} {base : Heap} {f : Addr} {fd : FuncData} (FF : Fun K "from_here" "Costs.from_here" sm_Costs_from_here f fd) {C_Costs : Addr} (c_Costs : Cls K C_Costs) (na_Costs_least : NoAttr K C_Costs "least") (na_Costs_price : NoAttr K C_Costs "price") (na_Costs_squares : NoAttr K C_Costs "squares") {f_m_Costs_free : Addr} {fd_m_Costs_free : FuncData} (G_m_Costs_free : FnOk P w K mg base CX0 1 f_m_Costs_free fd_m_Costs_free ["self", "mask"] (spOf K (pf_m_Costs_free C_Costs))) (mt_m_Costs_free : Meth K C_Costs "free" f_m_Costs_free) (b_m_Costs_free : Binds K fd_m_Costs_free ["self", "mask"] []) (n_min : mg "min" = none) : FnOk P w K mg base CX0 2 f fd ["self", "i", "mask"] (spOf K (pf_m_Costs_from_here C_Costs)) := by
  refine ok_of (N := N_m_Costs_from_here) FF sc_m_Costs_from_here (fun as m R hG => ?_) (fun cdv A outer s H E hr => ?_)
  · obtain ⟨l_self, dx_self, l_self_least, v_self, v_self_least, v_i, v_mask, r_, _, rfl, _⟩ := hG
    rfl
  · have nd : (N_m_Costs_from_here : List Str).Nodup := sc_m_Costs_from_here.nd
    refine ⟨_, (pss_cons (ps_set (i := 3) nd rfl (Or.inr rfl) (pe_ix (kIx (r := rIxL) (K := K) ix_list rfl) (kPe (r := fun K => tFld K _ _) (K := K) (pe_fld (pv 0) rfl) rfl) pe_int (fun _ _ => rfl)))
      (pss_cons (ps_setLc (i := 4) (own := [("j", 5)]) (g := gName 5) (tt := tYes) rfl nd rfl rfl (sw_true rfl rfl rfl (by decide +kernel)) (kPi (r := fun K => iList K _) (K := K) (pi_list (pe_meth (pv 0) c_Costs mt_m_Costs_free G_m_Costs_free (hr.mono (by decide)) b_m_Costs_free .nil pass0 (pa_cons (pv 2) pa_nil))) rfl) (blkOk_by (own := [("j", 5)]) (N := N_m_Costs_from_here) (sc := (defScope sm_Costs_from_here)) (by decide +kernel)) (fun _ _ _ _ _ => (pg_name (i := 5) nd rfl (by first | exact Or.inl rfl | exact Or.inr rfl))) (fun _ _ _ _ _ => pts_nil) (fun _ _ _ _ _ => (pe_op op_add (pe_ix (kIx (r := rIxL) (K := K) ix_list rfl) (pe_ix (kIx (r := rIxL) (K := K) ix_list rfl) (kPe (r := fun K => tFld K _ _) (K := K) (pe_fld (pv 0) rfl) rfl) (pv 1) (fun _ _ => rfl)) (pv 5) (fun _ _ => rfl)) (pe_ix (kIx (r := rIxL) (K := K) ix_list rfl) (pv 3) (pe_op op_or (pv 2) (pe_op op_shl pe_int (pv 5))) (fun _ _ => rfl)))))
      (pss_cons (ps_ret (pe_callB (kCa (r := rMinP) (K := K) (cr_minP rfl hr.units) rfl) (by rfl) n_min (by decide +kernel) (pa_cons (pe_op op_cat (pv 4) (pe_lst (pa_cons (pe_op op_add (kPe (r := fun K => tFld K _ _) (K := K) (pe_fld (pv 0) rfl) rfl) (pe_ix (kIx (r := rIxL) (K := K) ix_list rfl) (pv 3) (pv 2) (fun _ _ => rfl))) pa_nil))) pa_nil))) pss_nil))), ?_⟩
    rintro as m R ⟨l_self, dx_self, l_self_least, v_self, v_self_least, v_i, v_mask, r_, h0, rfl, rfl, rfl⟩ F D rfl hk hfin hnx
    unfold m_Costs_from_here at h0
    show Wp _ _ _ [.rf l_self, .da (dI v_i), .da (dI v_mask), .un, .un, .un] [(l_self, obj C_Costs dx_self names_Costs [.da (dI v_self.1), .da (dI v_self.2.1), .da (dI v_self.2.2.1), .da ((dL (dL dI)) v_self.2.2.2), .rf l_self_least]), (l_self_least, .ls (List.map (dL dI) v_self_least))]
    obtain ⟨t1, q2, h0⟩ := bindS h0
    refine wp_asg (i := 3) (ev_op (ev_fld 0 4 (ev_rf (i := 0) rfl) rfl rfl pa_Costs_least (Nat.le_of_ble_eq_true rfl) c_Costs na_Costs_least) (ev_int (i := 0)) (rr_ixC (f := (dL dI)) 1 rfl q2)) ?_
    show Wp _ _ _ [.rf l_self, .da (dI v_i), .da (dI v_mask), .da ((dL dI) t1), .un, .un] [(l_self, obj C_Costs dx_self names_Costs [.da (dI v_self.1), .da (dI v_self.2.1), .da (dI v_self.2.2.1), .da ((dL (dL dI)) v_self.2.2.2), .rf l_self_least]), (l_self_least, .ls (List.map (dL dI) v_self_least))]
    obtain ⟨t3, q4, h0⟩ := bindS h0
    obtain ⟨u14, q15, h0⟩ := bindS h0
    obtain ⟨o16, q17, h0⟩ := bindS h0
    refine wp_asg (i := 4) (lc_end (lc_map (f2 := dI) (src_L (f := dI) (j := 5) (ev_methP (mc := [(l_self, obj C_Costs dx_self names_Costs [.da (dI v_self.1), .da (dI v_self.2.1), .da (dI v_self.2.2.1), .da ((dL (dL dI)) v_self.2.2.2), .rf l_self_least]), (l_self_least, .ls (List.map (dL dI) v_self_least))]) (mc' := [(l_self, obj C_Costs dx_self names_Costs [.da (dI v_self.1), .da (dI v_self.2.1), .da (dI v_self.2.2.1), .da ((dL (dL dI)) v_self.2.2.2), .rf l_self_least]), (l_self_least, .ls (List.map (dL dI) v_self_least))]) (fr := []) (m3 := [(l_self, obj C_Costs dx_self names_Costs [.da (dI v_self.1), .da (dI v_self.2.1), .da (dI v_self.2.2.1), .da ((dL (dL dI)) v_self.2.2.2), .rf l_self_least]), (l_self_least, .ls (List.map (dL dI) v_self_least))]) 0 (ev_rf (i := 0) rfl) rfl (Nat.le_of_ble_eq_true rfl) nm_Costs_free (ea_cons (ev_var (i := 2) rfl) ea_nil) (perm_ix (n := 2) [0, 1] rfl (by decide) rfl) (perm_ix (n := 2) [0, 1] rfl (by decide) rfl) ⟨_, ⟨_, _, _, _, _, _, _, q4, rfl, rfl, rfl⟩, fun _ _ h => h⟩)) (by decide) (fun _ => True.intro) q15 q17 (by rintro v_j5 y_ hx_ h_; obtain ⟨t6, q7, h_⟩ := bindS h_; obtain ⟨t8, q9, h_⟩ := bindS h_; obtain ⟨t10, q11, h_⟩ := bindS h_; obtain ⟨t12, q13, h_⟩ := bindS h_; cases h_; exact (ev_op (ev_op (ev_op (ev_fld 0 3 (ev_rf (i := 0) rfl) rfl rfl pa_Costs_squares (Nat.le_of_ble_eq_true rfl) c_Costs na_Costs_squares) (ev_var (i := 1) rfl) (rr_ixL (f := (dL dI)) q7)) (ev_var (i := 5) rfl) (rr_ixL (f := dI) q9)) (ev_op (ev_var (i := 3) rfl) (ev_op (ev_var (i := 2) rfl) (ev_op (ev_int (i := 1)) (ev_var (i := 5) rfl) (rr_shl q11)) (rr_i (f := Builtin.bitOr))) (rr_ixL (f := dI) q13)) rr_i)))) ?_
    show Wp _ _ _ [.rf l_self, .da (dI v_i), .da (dI v_mask), .da ((dL dI) t1), .da ((dL dI) o16), .un] [(l_self, obj C_Costs dx_self names_Costs [.da (dI v_self.1), .da (dI v_self.2.1), .da (dI v_self.2.2.1), .da ((dL (dL dI)) v_self.2.2.2), .rf l_self_least]), (l_self_least, .ls (List.map (dL dI) v_self_least))]
    obtain ⟨t18, q19, h0⟩ := bindS h0
    obtain ⟨u20, q21, h0⟩ := bindS h0
    obtain ⟨t22, q23, h0⟩ := bindS h0
    have e0_ := Option.some.inj h0
    subst e0_
    exact wp_retS (ev_cb (ea_cons (ev_op (ev_var (i := 4) rfl) (show Ev _ _ _ _ (.da ((dL dI) ([(v_self.2.2.1 + t18)] : (List Int)))) _ from ev_lst (dl := [dI (v_self.2.2.1 + t18)]) (ea_cons (ev_op (ev_fld 0 2 (ev_rf (i := 0) rfl) rfl rfl pa_Costs_price (Nat.le_of_ble_eq_true rfl) c_Costs na_Costs_price) (ev_op (ev_var (i := 3) rfl) (ev_var (i := 2) rfl) (rr_ixL (f := dI) q19)) rr_i) ea_nil) (Nat.le_of_ble_eq_true rfl)) (rr_cat q21)) ea_nil) (rc_min (f := dI) (by decide) q23)) hfin ⟨rfl, rfl⟩ (List.Sublist.cons₂ _ (List.Sublist.cons₂ _ (List.nil_sublist _)))
end K92
set_option maxHeartbeats 2000000
namespace K92
open PySem PySem.Spec PyProof.Rows L2 Evl FC
theorem ok_m_Costs_init {P : Program} {w : World} {K : PySem.W.Frag} {mg : Str → Option Value} {base : Heap} {f : Addr} {fd : FuncData} (FF : Fun K "__init__" "Costs.__init__" sm_Costs_init f fd) {C_Costs : Addr} (c_Costs : Cls K C_Costs) (na_Costs_least : NoAttr K C_Costs "least") (na_Costs_many : NoAttr K C_Costs "many") (na_Costs_others : NoAttr K C_Costs "others") (na_Costs_price : NoAttr K C_Costs "price") (na_Costs_squares : NoAttr K C_Costs "squares") {f_m_Costs_from_here : Addr} {fd_m_Costs_from_here : FuncData} (G_m_Costs_from_here : FnOk P w K mg base CX0 2 f_m_Costs_from_here fd_m_Costs_from_here ["self", "i", "mask"] (spOf K (pf_m_Costs_from_here C_Costs))) (mt_m_Costs_from_here : Meth K C_Costs "from_here" f_m_Costs_from_here) (b_m_Costs_from_here : Binds K fd_m_Costs_from_here ["self", "i", "mask"] []) {f_m_apart : Addr} {fd_m_apart : FuncData} (G_m_apart : FnOk P w K mg base CX0 1 f_m_apart fd_m_apart ["one", "other"] (spOf K (pf_m_apart))) (g_m_apart : mg "apart" = some (.ref f_m_apart)) (k_m_apart : PySem.W.keepIn K (.ref f_m_apart) = true) (b_m_apart : Binds K fd_m_apart ["one", "other"] []) {f_m_ones_in : Addr} {fd_m_ones_in : FuncData} (G_m_ones_in : FnOk P w K mg base CX0 1 f_m_ones_in fd_m_ones_in ["mask"] (spOf K (pf_m_ones_in))) (g_m_ones_in : mg "ones_in" = some (.ref f_m_ones_in)) (k_m_ones_in : PySem.W.keepIn K (.ref f_m_ones_in) = true) (b_m_ones_in : Binds K fd_m_ones_in ["mask"] []) (n_len : mg "len" = none) (n_range : mg "range" = none) (n_reversed : mg "reversed" = none) : FnOk P w K mg base CX0 3 f fd ["self", "one", "other", "price"] (spOf K (pf_m_Costs_init C_Costs)) := by
  refine ok_of (N := N_m_Costs_init) FF sc_m_Costs_init (fun as m R hG => ?_) (fun cdv A outer s H E hr => ?_)
  · obtain ⟨l_self, dx_self, v_one, v_other, v_price, w_self, w_least, _, rfl, _⟩ := hG
    rfl
  · have nd : (N_m_Costs_init : List Str).Nodup := sc_m_Costs_init.nd
    refine ⟨_, (pss_cons (ps_fld (pv 0) (pe_callB (kCa (r := rLenA) (K := K) call_len_seq rfl) (by rfl) n_len (by decide +kernel) (pa_cons (pv 1) pa_nil)) rfl)
      (pss_cons (ps_fld (pv 0) (pe_callB (kCa (r := rLenA) (K := K) call_len_seq rfl) (by rfl) n_len (by decide +kernel) (pa_cons (pv 2) pa_nil)) rfl)
      (pss_cons (ps_fld (pv 0) (pv 3) rfl)
      (pss_cons (ps_fld (pv 0) (pe_lc (own := [("colour", 5)]) (g := gName 5) (tt := tYes) rfl nd (kPi (r := fun K => iList K _) (K := K) (pi_list (pv 1)) rfl) (blkOk_by (own := [("colour", 5)]) (N := N_m_Costs_init) (sc := (defScope sm_Costs_init)) (by decide +kernel)) (fun _ _ _ _ _ => (pg_name (i := 5) nd rfl (by first | exact Or.inl rfl | exact Or.inr rfl))) (fun _ _ _ _ _ => pts_nil) (fun _ _ _ _ _ => (pe_lc (own := [("more", 6)]) (g := gName 6) (tt := tYes) rfl nd (kPi (r := fun K => iList K _) (K := K) (pi_list (pv 2)) rfl) (blkOk_by (own := [("more", 6)]) (N := N_m_Costs_init) (sc := (relS ({ kind := .function, names := [(".0", .local), ("colour", .cell), ("other", .free)], isGenerator := false, isCoroutine := false, more := [] } : Scope) (defScope sm_Costs_init))) (by decide +kernel)) (fun _ _ _ _ _ => (pg_name (i := 6) nd rfl (by first | exact Or.inl rfl | exact Or.inr rfl))) (fun _ _ _ _ _ => pts_nil) (fun _ _ _ _ _ => (pe_call G_m_apart (hr.mono (by decide)) (by rfl) g_m_apart k_m_apart b_m_apart .nil pass0 (pa_cons (pv 5) (pa_cons (pv 6) pa_nil))))))) rfl)
      (pss_cons (ps_fld (pv 0) (pe_lst (pa_cons (pe_lc (own := [("mask", 7)]) (g := gName 7) (tt := tYes) rfl nd (pi_range1 (by rfl) n_range (pa_cons (pe_op op_shl pe_int (kPe (r := fun K => tFld K _ _) (K := K) (pe_fld (pv 0) rfl) rfl)) pa_nil)) (blkOk_by (own := [("mask", 7)]) (N := N_m_Costs_init) (sc := (defScope sm_Costs_init)) (by decide +kernel)) (fun _ _ _ _ _ => (pg_name (i := 7) nd rfl (by first | exact Or.inl rfl | exact Or.inr rfl))) (fun _ _ _ _ _ => pts_nil) (fun _ _ _ _ _ => (pe_op op_mulA (pv 3) (pe_op op_sub (kPe (r := fun K => tFld K _ _) (K := K) (pe_fld (pv 0) rfl) rfl) (pe_call G_m_ones_in (hr.mono (by decide)) (by rfl) g_m_ones_in k_m_ones_in b_m_ones_in .nil pass0 (pa_cons (pv 7) pa_nil)))))) pa_nil)) rfl)
      (pss_cons (ps_for PassesOwn.never rfl (pi_revR (by rfl) n_reversed (prg_1 (by rfl) n_range (kPe (r := fun K => tFld K _ _) (K := K) (pe_fld (pv 0) rfl) rfl))) (pg_name (i := 4) nd rfl (by first | exact Or.inl rfl | exact Or.inr rfl))
      (pss_cons (ps_expr (pe_bm PySem.F.plainAttrs_list PySem.F.slot_list_insert PySem.F.type_list_insert mt_insert (kPe (r := fun K => tFld K _ _) (K := K) (pe_fld (pv 0) rfl) rfl) (pa_cons pe_int (pa_cons (pe_lc (own := [("mask", 7)]) (g := gName 7) (tt := tYes) rfl nd (pi_range1 (by rfl) n_range (pa_cons (pe_op op_shl pe_int (kPe (r := fun K => tFld K _ _) (K := K) (pe_fld (pv 0) rfl) rfl)) pa_nil)) (blkOk_by (own := [("mask", 7)]) (N := N_m_Costs_init) (sc := (defScope sm_Costs_init)) (by decide +kernel)) (fun _ _ _ _ _ => (pg_name (i := 7) nd rfl (by first | exact Or.inl rfl | exact Or.inr rfl))) (fun _ _ _ _ _ => pts_nil) (fun _ _ _ _ _ => (pe_meth (pv 0) c_Costs mt_m_Costs_from_here G_m_Costs_from_here (hr.mono (by decide)) b_m_Costs_from_here .nil pass0 (pa_cons (pv 4) (pa_cons (pv 7) pa_nil))))) pa_nil))))
      pss_nil))
      pss_nil)))))), ?_⟩
    rintro as m R ⟨l_self, dx_self, v_one, v_other, v_price, w_self, w_least, h0, rfl, rfl, rfl⟩ F D rfl hk hfin hnx
    unfold m_Costs_init at h0
    show Wp _ _ _ [.rf l_self, .da ((dL (dU dI)) v_one), .da ((dL (dU dI)) v_other), .da (dI v_price), .un, .un, .un, .un] [(l_self, obj C_Costs dx_self names_Costs [])]
    obtain ⟨v_many1, q2, h0⟩ := bindS h0
    refine wp_fld0 0 (ev_eq (f := dI) (ev_cb (ea_cons (ev_var (i := 1) rfl) ea_nil) (rc_lenL (f := (dU dI)))) (Option.some.inj q2)) (ev_rf (i := 0) rfl) rfl pa_Costs_many (Nat.lt_of_le_of_lt (Nat.le_of_ble_eq_true (m := 100) rfl) (by decide)) c_Costs na_Costs_many ?_
    show Wp _ _ _ [.rf l_self, .da ((dL (dU dI)) v_one), .da ((dL (dU dI)) v_other), .da (dI v_price), .un, .un, .un, .un] [(l_self, obj C_Costs dx_self names_Costs [.da (dI v_many1)])]
    obtain ⟨v_others3, q4, h0⟩ := bindS h0
    refine wp_fld0 0 (ev_eq (f := dI) (ev_cb (ea_cons (ev_var (i := 2) rfl) ea_nil) (rc_lenL (f := (dU dI)))) (Option.some.inj q4)) (ev_rf (i := 0) rfl) rfl pa_Costs_others (Nat.lt_of_le_of_lt (Nat.le_of_ble_eq_true (m := 100) rfl) (by decide)) c_Costs na_Costs_others ?_
    show Wp _ _ _ [.rf l_self, .da ((dL (dU dI)) v_one), .da ((dL (dU dI)) v_other), .da (dI v_price), .un, .un, .un, .un] [(l_self, obj C_Costs dx_self names_Costs [.da (dI v_many1), .da (dI v_others3)])]
    refine wp_fld0 0 (ev_var (i := 3) rfl) (ev_rf (i := 0) rfl) rfl pa_Costs_price (Nat.lt_of_le_of_lt (Nat.le_of_ble_eq_true (m := 100) rfl) (by decide)) c_Costs na_Costs_price ?_
    show Wp _ _ _ [.rf l_self, .da ((dL (dU dI)) v_one), .da ((dL (dU dI)) v_other), .da (dI v_price), .un, .un, .un, .un] [(l_self, obj C_Costs dx_self names_Costs [.da (dI v_many1), .da (dI v_others3), .da (dI v_price)])]
    obtain ⟨u13, q14, h0⟩ := bindS h0
    obtain ⟨o15, q16, h0⟩ := bindS h0
    refine wp_fld0 0 (lc_end (lc_map (f2 := (dL dI)) (src_L (f := (dU dI)) (j := 5) (ev_var (i := 1) rfl)) (by decide) (fun _ => True.intro) q14 q16 (by rintro v_colour5 y_ hx_ h_; obtain ⟨u9, q10, h_⟩ := bindS h_; obtain ⟨o11, q12, h_⟩ := bindS h_; cases h_; exact (lc_end (lc_map (f2 := dI) (src_L (f := (dU dI)) (j := 6) (ev_var (i := 2) rfl)) (by decide) (fun _ => True.intro) q10 q12 (by rintro v_more6 y_ hx_ h_; obtain ⟨t7, q8, h_⟩ := bindS h_; cases h_; exact (ev_call (ea_cons (ev_var (i := 5) rfl) (ea_cons (ev_var (i := 6) rfl) ea_nil)) ⟨_, ⟨_, _, _, q8, rfl, rfl, rfl⟩, fun _ _ h => h⟩))))))) (ev_rf (i := 0) rfl) rfl pa_Costs_squares (Nat.lt_of_le_of_lt (Nat.le_of_ble_eq_true (m := 100) rfl) (by decide)) c_Costs na_Costs_squares ?_
    show Wp _ _ _ [.rf l_self, .da ((dL (dU dI)) v_one), .da ((dL (dU dI)) v_other), .da (dI v_price), .un, .un, .un, .un] [(l_self, obj C_Costs dx_self names_Costs [.da (dI v_many1), .da (dI v_others3), .da (dI v_price), .da ((dL (dL dI)) o15)])]
    obtain ⟨t17, q18, h0⟩ := bindS h0
    obtain ⟨rg19, q20, h0⟩ := bindS h0
    obtain ⟨u26, q27, h0⟩ := bindS h0
    obtain ⟨o28, q29, h0⟩ := bindS h0
    refine wp_fld0N 0 (show EvN _ _ _ _ (.ls (List.map (dL dI) ([o28] : (List (List Int))))) _ from en_lst (dl := [(dL dI) o28]) (ea_cons (lc_end (lc_map (f2 := dI) (src_R1 (j := 7) (ea_cons (ev_op (ev_int (i := 1)) (ev_fld 0 1 (ev_rf (i := 0) rfl) rfl rfl pa_Costs_others (Nat.le_of_ble_eq_true rfl) c_Costs na_Costs_others) (rr_shl q18)) ea_nil) q20) (by decide) (fun _ => True.intro) q27 q29 (by rintro v_mask21 y_ hx_ h_; obtain ⟨t22, q23, h_⟩ := bindS h_; obtain ⟨t24, q25, h_⟩ := bindS h_; cases h_; exact (ev_op (ev_var (i := 3) rfl) (ev_op (ev_fld 0 1 (ev_rf (i := 0) rfl) rfl rfl pa_Costs_others (Nat.le_of_ble_eq_true rfl) c_Costs na_Costs_others) (ev_call (ea_cons (ev_var (i := 7) rfl) ea_nil) ⟨_, ⟨_, _, q23, rfl, rfl, rfl⟩, fun _ _ h => h⟩) rr_i) (rr_mul q25))))) ea_nil) (Nat.le_of_ble_eq_true rfl)) (fun _ => (ev_rf (i := 0) rfl)) rfl pa_Costs_least (Nat.lt_of_le_of_lt (Nat.le_of_ble_eq_true (m := 100) rfl) (by decide)) c_Costs na_Costs_least rfl (fun l_30 nk_l_30 => ?_)
    show Wp _ _ _ [.rf l_self, .da ((dL (dU dI)) v_one), .da ((dL (dU dI)) v_other), .da (dI v_price), .un, .un, .un, .un] [(l_self, obj C_Costs dx_self names_Costs [.da (dI v_many1), .da (dI v_others3), .da (dI v_price), .da ((dL (dL dI)) o15), .rf l_30]), (l_30, .ls (List.map (dL dI) ([o28] : (List (List Int)))))]
    obtain ⟨rg31, q32, h0⟩ := bindS h0
    obtain ⟨c76, q77, h0⟩ := bindS h0
    refine wp_forF (fun (s_ : (List (List Int))) => [.rf l_self, .da ((dL (dU dI)) v_one), .da ((dL (dU dI)) v_other), .da (dI v_price), .un, .un, .un, .un]) (fun (s_ : (List (List Int))) => [(l_self, obj C_Costs dx_self names_Costs [.da (dI v_many1), .da (dI v_others3), .da (dI v_price), .da ((dL (dL dI)) o15), .rf l_30]), (l_30, .ls (List.map (dL dI) s_))]) (src_RvR (j := 4) (tr_1 (ev_fld 0 0 (ev_rf (i := 0) rfl) rfl rfl pa_Costs_many (Nat.le_of_ble_eq_true rfl) c_Costs na_Costs_many)) q32) q77 (.cons .rfl (.cons .rfl (.cons .rfl (.cons .rfl (.cons .un (.cons .un (.cons .un (.cons .un Wks.nil)))))))) rfl (fun _ => True.intro) ?_ ?_
    · rintro lo1 c49 v_i33 s_ hx1 h1 D1 he1 hn1 hct1
      show Wp _ _ _ [.rf l_self, .da ((dL (dU dI)) v_one), .da ((dL (dU dI)) v_other), .da (dI v_price), .da (dI v_i33), .un, .un, .un] [(l_self, obj C_Costs dx_self names_Costs [.da (dI v_many1), .da (dI v_others3), .da (dI v_price), .da ((dL (dL dI)) o15), .rf l_30]), (l_30, .ls (List.map (dL dI) c49))]
      obtain ⟨t63, q64, h1⟩ := bindS h1
      obtain ⟨rg65, q66, h1⟩ := bindS h1
      obtain ⟨u70, q71, h1⟩ := bindS h1
      obtain ⟨o72, q73, h1⟩ := bindS h1
      obtain ⟨c74, q75, h1⟩ := bindS h1
      refine wp_expr (ev_bm (ev_fld 0 4 (ev_rf (i := 0) rfl) rfl rfl pa_Costs_least (Nat.le_of_ble_eq_true rfl) c_Costs na_Costs_least) (j := 1) rfl (ea_cons (ev_int (i := 0)) (ea_cons (lc_end (lc_map (f2 := dI) (src_R1 (j := 7) (ea_cons (ev_op (ev_int (i := 1)) (ev_fld 0 1 (ev_rf (i := 0) rfl) rfl rfl pa_Costs_others (Nat.le_of_ble_eq_true rfl) c_Costs na_Costs_others) (rr_shl q64)) ea_nil) q66) (by decide) (fun _ => True.intro) q71 q73 (by rintro v_mask67 y_ hx_ h_; obtain ⟨t68, q69, h_⟩ := bindS h_; cases h_; exact (ev_methP (mc := [(l_self, obj C_Costs dx_self names_Costs [.da (dI v_many1), .da (dI v_others3), .da (dI v_price), .da ((dL (dL dI)) o15), .rf l_30]), (l_30, .ls (List.map (dL dI) c49))]) (mc' := [(l_self, obj C_Costs dx_self names_Costs [.da (dI v_many1), .da (dI v_others3), .da (dI v_price), .da ((dL (dL dI)) o15), .rf l_30]), (l_30, .ls (List.map (dL dI) c49))]) (fr := []) (m3 := [(l_self, obj C_Costs dx_self names_Costs [.da (dI v_many1), .da (dI v_others3), .da (dI v_price), .da ((dL (dL dI)) o15), .rf l_30]), (l_30, .ls (List.map (dL dI) c49))]) 0 (ev_rf (i := 0) rfl) rfl (Nat.le_of_ble_eq_true rfl) nm_Costs_from_here (ea_cons (ev_var (i := 4) rfl) (ea_cons (ev_var (i := 7) rfl) ea_nil)) (perm_ix (n := 2) [0, 1] rfl (by decide) rfl) (perm_ix (n := 2) [0, 1] rfl (by decide) rfl) ⟨_, ⟨_, _, _, _, _, _, _, _, q69, rfl, rfl, rfl⟩, fun _ _ h => h⟩)))) ea_nil)) (rm_ins (f := (dL dI)) 1 rfl q75)) ?_
      show Wp _ _ _ [.rf l_self, .da ((dL (dU dI)) v_one), .da ((dL (dU dI)) v_other), .da (dI v_price), .da (dI v_i33), .un, .un, .un] [(l_self, obj C_Costs dx_self names_Costs [.da (dI v_many1), .da (dI v_others3), .da (dI v_price), .da ((dL (dL dI)) o15), .rf l_30]), (l_30, .ls (List.map (dL dI) c74))]
      cases h1
      exact wp_next fun σ H a => hn1 σ H (at_weak (.cons .rfl (.cons .rfl (.cons .rfl (.cons .rfl (.cons .un (.cons .un (.cons .un (.cons .un Wks.nil)))))))) a)
    · show Wp _ _ _ [.rf l_self, .da ((dL (dU dI)) v_one), .da ((dL (dU dI)) v_other), .da (dI v_price), .un, .un, .un, .un] [(l_self, obj C_Costs dx_self names_Costs [.da (dI v_many1), .da (dI v_others3), .da (dI v_price), .da ((dL (dL dI)) o15), .rf l_30]), (l_30, .ls (List.map (dL dI) c76))]
      cases h0
      exact wp_fall hfin hnx ⟨rfl, _, rfl⟩ (List.Sublist.cons₂ _ (List.Sublist.cons₂ _ (List.nil_sublist _)))
end K92
set_option maxHeartbeats 2000000
namespace K92
open PySem PySem.Spec PyProof.Rows L2 Evl FC
theorem ok_m_Costs_rest {P : Program} {w : World} {K : PySem.W.Frag} {mg : Str → Option Value} {base : Heap} {f : Addr} {fd : FuncData} (FF : Fun K "rest" "Costs.rest" sm_Costs_rest f fd) {C_Costs : Addr} (c_Costs : Cls K C_Costs) (na_Costs_many : NoAttr K C_Costs "many") (na_Costs_others : NoAttr K C_Costs "others") (na_Costs_price : NoAttr K C_Costs "price") {f_m_ones_in : Addr} {fd_m_ones_in : FuncData} (G_m_ones_in : FnOk P w K mg base CX0 1 f_m_ones_in fd_m_ones_in ["mask"] (spOf K (pf_m_ones_in))) (g_m_ones_in : mg "ones_in" = some (.ref f_m_ones_in)) (k_m_ones_in : PySem.W.keepIn K (.ref f_m_ones_in) = true) (b_m_ones_in : Binds K fd_m_ones_in ["mask"] []) : FnOk P w K mg base CX0 2 f fd ["self", "i", "mask"] (spOf K (pf_m_Costs_rest C_Costs)) := by
  refine ok_of (N := N_m_Costs_rest) FF sc_m_Costs_rest (fun as m R hG => ?_) (fun cdv A outer s H E hr => ?_)
  · obtain ⟨l_self, dx_self, l_self_least, v_self, v_self_least, v_i, v_mask, r_, _, rfl, _⟩ := hG
    rfl
  · have nd : (N_m_Costs_rest : List Str).Nodup := sc_m_Costs_rest.nd
    refine ⟨_, (pss_cons (ps_ret (pe_op op_mulA (kPe (r := fun K => tFld K _ _) (K := K) (pe_fld (pv 0) rfl) rfl) (pe_op op_sub (pe_op op_add (pe_op op_sub (kPe (r := fun K => tFld K _ _) (K := K) (pe_fld (pv 0) rfl) rfl) (pv 1)) (kPe (r := fun K => tFld K _ _) (K := K) (pe_fld (pv 0) rfl) rfl)) (pe_call G_m_ones_in (hr.mono (by decide)) (by rfl) g_m_ones_in k_m_ones_in b_m_ones_in .nil pass0 (pa_cons (pv 2) pa_nil))))) pss_nil), ?_⟩
    rintro as m R ⟨l_self, dx_self, l_self_least, v_self, v_self_least, v_i, v_mask, r_, h0, rfl, rfl, rfl⟩ F D rfl hk hfin hnx
    unfold m_Costs_rest at h0
    show Wp _ _ _ [.rf l_self, .da (dI v_i), .da (dI v_mask)] [(l_self, obj C_Costs dx_self names_Costs [.da (dI v_self.1), .da (dI v_self.2.1), .da (dI v_self.2.2.1), .da ((dL (dL dI)) v_self.2.2.2), .rf l_self_least]), (l_self_least, .ls (List.map (dL dI) v_self_least))]
    obtain ⟨t1, q2, h0⟩ := bindS h0
    obtain ⟨t3, q4, h0⟩ := bindS h0
    have e0_ := Option.some.inj h0
    subst e0_
    exact wp_retS (ev_op (ev_fld 0 2 (ev_rf (i := 0) rfl) rfl rfl pa_Costs_price (Nat.le_of_ble_eq_true rfl) c_Costs na_Costs_price) (ev_op (ev_op (ev_op (ev_fld 0 0 (ev_rf (i := 0) rfl) rfl rfl pa_Costs_many (Nat.le_of_ble_eq_true rfl) c_Costs na_Costs_many) (ev_var (i := 1) rfl) rr_i) (ev_fld 0 1 (ev_rf (i := 0) rfl) rfl rfl pa_Costs_others (Nat.le_of_ble_eq_true rfl) c_Costs na_Costs_others) rr_i) (ev_call (ea_cons (ev_var (i := 2) rfl) ea_nil) ⟨_, ⟨_, _, q2, rfl, rfl, rfl⟩, fun _ _ h => h⟩) rr_i) (rr_mul q4)) hfin ⟨rfl, rfl⟩ (List.Sublist.cons₂ _ (List.Sublist.cons₂ _ (List.nil_sublist _)))
end K92
set_option maxHeartbeats 2000000
namespace K92
open PySem PySem.Spec PyProof.Rows L2 Evl FC
theorem ok_m_Costs_partner {P : Program} {w : World} {K : PySem.W.Frag} {mg : Str → Option Value} {base : Heap} {f : Addr} {fd : FuncData} (FF : Fun K "partner" "Costs.partner" sm_Costs_partner f fd) {C_Costs : Addr} (c_Costs : Cls K C_Costs) (na_Costs_least : NoAttr K C_Costs "least") (na_Costs_squares : NoAttr K C_Costs "squares") {f_m_Costs_free : Addr} {fd_m_Costs_free : FuncData} (G_m_Costs_free : FnOk P w K mg base CX0 1 f_m_Costs_free fd_m_Costs_free ["self", "mask"] (spOf K (pf_m_Costs_free C_Costs))) (mt_m_Costs_free : Meth K C_Costs "free" f_m_Costs_free) (b_m_Costs_free : Binds K fd_m_Costs_free ["self", "mask"] []) : FnOk P w K mg base CX0 2 f fd ["self", "i", "mask"] (spOf K (pf_m_Costs_partner C_Costs)) := by
  refine ok_of (N := N_m_Costs_partner) FF sc_m_Costs_partner (fun as m R hG => ?_) (fun cdv A outer s H E hr => ?_)
  · obtain ⟨l_self, dx_self, l_self_least, v_self, v_self_least, v_i, v_mask, r_, _, rfl, _⟩ := hG
    rfl
  · have nd : (N_m_Costs_partner : List Str).Nodup := sc_m_Costs_partner.nd
    refine ⟨_, (pss_cons (ps_for PassesOwn.never rfl (kPi (r := fun K => iList K _) (K := K) (pi_list (pe_meth (pv 0) c_Costs mt_m_Costs_free G_m_Costs_free (hr.mono (by decide)) b_m_Costs_free .nil pass0 (pa_cons (pv 2) pa_nil))) rfl) (pg_name (i := 3) nd rfl (by first | exact Or.inl rfl | exact Or.inr rfl))
      (pss_cons (ps_if (pt_cmpR op_eq (pe_op op_add (pe_ix (kIx (r := rIxL) (K := K) ix_list rfl) (pe_ix (kIx (r := rIxL) (K := K) ix_list rfl) (kPe (r := fun K => tFld K _ _) (K := K) (pe_fld (pv 0) rfl) rfl) (pv 1) (fun _ _ => rfl)) (pv 3) (fun _ _ => rfl)) (pe_ix (kIx (r := rIxL) (K := K) ix_list rfl) (pe_ix (kIx (r := rIxL) (K := K) ix_list rfl) (kPe (r := fun K => tFld K _ _) (K := K) (pe_fld (pv 0) rfl) rfl) (pe_op op_add (pv 1) pe_int) (fun _ _ => rfl)) (pe_op op_or (pv 2) (pe_op op_shl pe_int (pv 3))) (fun _ _ => rfl))) (pe_ix (kIx (r := rIxL) (K := K) ix_list rfl) (pe_ix (kIx (r := rIxL) (K := K) ix_list rfl) (kPe (r := fun K => tFld K _ _) (K := K) (pe_fld (pv 0) rfl) rfl) (pv 1) (fun _ _ => rfl)) (pv 2) (fun _ _ => rfl)) (nomark _)) (pss_cons (ps_ret (pv 3)) pss_nil) pss_nil)
      pss_nil))
      (pss_cons (ps_ret pe_non) pss_nil)), ?_⟩
    rintro as m R ⟨l_self, dx_self, l_self_least, v_self, v_self_least, v_i, v_mask, r_, h0, rfl, rfl, rfl⟩ F D rfl hk hfin hnx
    unfold m_Costs_partner at h0
    show Wp _ _ _ [.rf l_self, .da (dI v_i), .da (dI v_mask), .un] [(l_self, obj C_Costs dx_self names_Costs [.da (dI v_self.1), .da (dI v_self.2.1), .da (dI v_self.2.2.1), .da ((dL (dL dI)) v_self.2.2.2), .rf l_self_least]), (l_self_least, .ls (List.map (dL dI) v_self_least))]
    obtain ⟨t1, q2, h0⟩ := bindS h0
    obtain ⟨k50, q49, h0⟩ := bindS h0
    refine wp_forC (fun (s_ : Unit) => [.rf l_self, .da (dI v_i), .da (dI v_mask), .un]) (fun (s_ : Unit) => [(l_self, obj C_Costs dx_self names_Costs [.da (dI v_self.1), .da (dI v_self.2.1), .da (dI v_self.2.2.1), .da ((dL (dL dI)) v_self.2.2.2), .rf l_self_least]), (l_self_least, .ls (List.map (dL dI) v_self_least))]) (src_L (f := dI) (j := 3) (ev_methP (mc := [(l_self, obj C_Costs dx_self names_Costs [.da (dI v_self.1), .da (dI v_self.2.1), .da (dI v_self.2.2.1), .da ((dL (dL dI)) v_self.2.2.2), .rf l_self_least]), (l_self_least, .ls (List.map (dL dI) v_self_least))]) (mc' := [(l_self, obj C_Costs dx_self names_Costs [.da (dI v_self.1), .da (dI v_self.2.1), .da (dI v_self.2.2.1), .da ((dL (dL dI)) v_self.2.2.2), .rf l_self_least]), (l_self_least, .ls (List.map (dL dI) v_self_least))]) (fr := []) (m3 := [(l_self, obj C_Costs dx_self names_Costs [.da (dI v_self.1), .da (dI v_self.2.1), .da (dI v_self.2.2.1), .da ((dL (dL dI)) v_self.2.2.2), .rf l_self_least]), (l_self_least, .ls (List.map (dL dI) v_self_least))]) 0 (ev_rf (i := 0) rfl) rfl (Nat.le_of_ble_eq_true rfl) nm_Costs_free (ea_cons (ev_var (i := 2) rfl) ea_nil) (perm_ix (n := 2) [0, 1] rfl (by decide) rfl) (perm_ix (n := 2) [0, 1] rfl (by decide) rfl) ⟨_, ⟨_, _, _, _, _, _, _, q2, rfl, rfl, rfl⟩, fun _ _ h => h⟩)) q49 (.cons .rfl (.cons .rfl (.cons .rfl (.cons .un Wks.nil)))) rfl (fun _ => True.intro) ?_ ?_
    · rintro lo1 ⟨⟩ v_j3 c_ hx1 h1 D1 he1 hn1 hct1 hbk1 hret1
      show Wp _ _ _ [.rf l_self, .da (dI v_i), .da (dI v_mask), .da (dI v_j3)] [(l_self, obj C_Costs dx_self names_Costs [.da (dI v_self.1), .da (dI v_self.2.1), .da (dI v_self.2.2.1), .da ((dL (dL dI)) v_self.2.2.2), .rf l_self_least]), (l_self_least, .ls (List.map (dL dI) v_self_least))]
      obtain ⟨t34, q35, h1⟩ := bindS h1
      obtain ⟨t36, q37, h1⟩ := bindS h1
      obtain ⟨t38, q39, h1⟩ := bindS h1
      obtain ⟨t40, q41, h1⟩ := bindS h1
      obtain ⟨t42, q43, h1⟩ := bindS h1
      obtain ⟨t44, q45, h1⟩ := bindS h1
      obtain ⟨t46, q47, h1⟩ := bindS h1
      refine wp_if (et_test (ev_op (ev_op (ev_op (ev_op (ev_fld 0 3 (ev_rf (i := 0) rfl) rfl rfl pa_Costs_squares (Nat.le_of_ble_eq_true rfl) c_Costs na_Costs_squares) (ev_var (i := 1) rfl) (rr_ixL (f := (dL dI)) q35)) (ev_var (i := 3) rfl) (rr_ixL (f := dI) q37)) (ev_op (ev_op (ev_fld 0 4 (ev_rf (i := 0) rfl) rfl rfl pa_Costs_least (Nat.le_of_ble_eq_true rfl) c_Costs na_Costs_least) (ev_op (ev_var (i := 1) rfl) (ev_int (i := 1)) rr_i) (rr_ixC (f := (dL dI)) 1 rfl q39)) (ev_op (ev_var (i := 2) rfl) (ev_op (ev_int (i := 1)) (ev_var (i := 3) rfl) (rr_shl q41)) (rr_i (f := Builtin.bitOr))) (rr_ixL (f := dI) q43)) rr_i) (ev_op (ev_op (ev_fld 0 4 (ev_rf (i := 0) rfl) rfl rfl pa_Costs_least (Nat.le_of_ble_eq_true rfl) c_Costs na_Costs_least) (ev_var (i := 1) rfl) (rr_ixC (f := (dL dI)) 1 rfl q45)) (ev_var (i := 2) rfl) (rr_ixL (f := dI) q47)) rr_eqI)) (fun hc => ?_) (fun hc => ?_)
      · have h1 := condT hc h1
        cases h1
        have g1 := ctlK_rt (hret1 _ rfl) h0
        have e0_ := Option.some.inj g1
        subst e0_
        exact wp_retS (show Ev _ _ _ _ (.da ((dO dI) (some v_j3))) _ from (ev_var (i := 3) rfl)) (fin_at hfin he1) ⟨rfl, rfl⟩ (List.Sublist.cons₂ _ (List.Sublist.cons₂ _ (List.nil_sublist _)))
      · have h1 := condF hc h1
        refine wp_next ?_
        cases h1
        exact wp_next fun σ H a => (hn1 _ rfl) σ H (at_weak (.cons .rfl (.cons .rfl (.cons .rfl (.cons .un Wks.nil)))) a)
    · rintro ⟨⟩ hk_
      have h0 := ctlK_go hk_ h0
      show Wp _ _ _ [.rf l_self, .da (dI v_i), .da (dI v_mask), .un] [(l_self, obj C_Costs dx_self names_Costs [.da (dI v_self.1), .da (dI v_self.2.1), .da (dI v_self.2.2.1), .da ((dL (dL dI)) v_self.2.2.2), .rf l_self_least]), (l_self_least, .ls (List.map (dL dI) v_self_least))]
      have e0_ := Option.some.inj h0
      subst e0_
      exact wp_retS (show Ev _ _ _ _ (.da ((dO dI) none)) _ from ev_non) hfin ⟨rfl, rfl⟩ (List.Sublist.cons₂ _ (List.Sublist.cons₂ _ (List.nil_sublist _)))
end K92
set_option maxHeartbeats 2000000
namespace K92
open PySem PySem.Spec PyProof.Rows L2 Evl FC
theorem ok_m_Costs_first_pairs {P : Program} {w : World} {K : PySem.W.Frag} {mg : Str → Option Value} {base : Heap} {f : Addr} {fd : FuncData} (FF : Fun K "first_pairs" "Costs.first_pairs" sm_Costs_first_pairs f fd) {C_Costs : Addr} (c_Costs : Cls K C_Costs) (na_Costs_least : NoAttr K C_Costs "least") (na_Costs_many : NoAttr K C_Costs "many") {f_m_Costs_partner : Addr} {fd_m_Costs_partner : FuncData} (G_m_Costs_partner : FnOk P w K mg base CX0 2 f_m_Costs_partner fd_m_Costs_partner ["self", "i", "mask"] (spOf K (pf_m_Costs_partner C_Costs))) (mt_m_Costs_partner : Meth K C_Costs "partner" f_m_Costs_partner) (b_m_Costs_partner : Binds K fd_m_Costs_partner ["self", "i", "mask"] []) {f_m_Costs_rest : Addr} {fd_m_Costs_rest : FuncData} (G_m_Costs_rest : FnOk P w K mg base CX0 2 f_m_Costs_rest fd_m_Costs_rest ["self", "i", "mask"] (spOf K (pf_m_Costs_rest C_Costs))) (mt_m_Costs_rest : Meth K C_Costs "rest" f_m_Costs_rest) (b_m_Costs_rest : Binds K fd_m_Costs_rest ["self", "i", "mask"] []) (n_range : mg "range" = none) : FnOk P w K mg base CX0 3 f fd ["self"] (spOf K (pf_m_Costs_first_pairs C_Costs)) := by
  refine ok_of (N := N_m_Costs_first_pairs) FF sc_m_Costs_first_pairs (fun as m R hG => ?_) (fun cdv A outer s H E hr => ?_)
  · obtain ⟨l_self, dx_self, l_self_least, v_self, v_self_least, r_, _, rfl, _⟩ := hG
    rfl
  · have nd : (N_m_Costs_first_pairs : List Str).Nodup := sc_m_Costs_first_pairs.nd
    refine ⟨_, (pss_cons (ps_set (i := 1) nd rfl (Or.inl rfl) (pe_lst pa_nil))
      (pss_cons (ps_set (i := 2) nd rfl (Or.inl rfl) pe_int)
      (pss_cons (ps_for PassesOwn.never rfl (pi_range1 (by rfl) n_range (pa_cons (kPe (r := fun K => tFld K _ _) (K := K) (pe_fld (pv 0) rfl) rfl) pa_nil)) (pg_name (i := 3) nd rfl (by first | exact Or.inl rfl | exact Or.inr rfl))
      (pss_cons (ps_if (pt_cmpR op_eq (pe_meth (pv 0) c_Costs mt_m_Costs_rest G_m_Costs_rest (hr.mono (by decide)) b_m_Costs_rest .nil pass0 (pa_cons (pv 3) (pa_cons (pv 2) pa_nil))) (pe_ix (kIx (r := rIxL) (K := K) ix_list rfl) (pe_ix (kIx (r := rIxL) (K := K) ix_list rfl) (kPe (r := fun K => tFld K _ _) (K := K) (pe_fld (pv 0) rfl) rfl) (pv 3) (fun _ _ => rfl)) (pv 2) (fun _ _ => rfl)) (nomark _)) (pss_cons (ps_ret (pv 1)) pss_nil) pss_nil)
      (pss_cons (ps_set (i := 4) nd rfl (Or.inl rfl) (pe_meth (pv 0) c_Costs mt_m_Costs_partner G_m_Costs_partner (hr.mono (by decide)) b_m_Costs_partner .nil pass0 (pa_cons (pv 3) (pa_cons (pv 2) pa_nil))))
      (Evl.pss_cut (ps_if (pt_cmpR op_notNo (pv 4) pe_non (nomark _)) (pss_cons (ps_expr (pe_bm PySem.F.plainAttrs_list PySem.F.slot_list_append PySem.F.type_list_append mt_append (pv 1) (pa_cons (pe_tup (pa_cons (pv 3) (pa_cons (pv 4) pa_nil))) pa_nil)))
      (pss_cons (ps_set (i := 2) nd rfl (Or.inl rfl) (pe_op op_or (pv 2) (pe_op op_shl pe_int (pv 4))))
      pss_nil)) pss_nil)
      pss_nil))))
      (pss_cons (ps_ret (pv 1)) pss_nil)))), ?_⟩
    rintro as m R ⟨l_self, dx_self, l_self_least, v_self, v_self_least, r_, h0, rfl, rfl, rfl⟩ F D rfl hk hfin hnx
    unfold m_Costs_first_pairs at h0
    show Wp _ _ _ [.rf l_self, .un, .un, .un, .un] [(l_self, obj C_Costs dx_self names_Costs [.da (dI v_self.1), .da (dI v_self.2.1), .da (dI v_self.2.2.1), .da ((dL (dL dI)) v_self.2.2.2), .rf l_self_least]), (l_self_least, .ls (List.map (dL dI) v_self_least))]
    refine wp_asgN (i := 1) (show EvN _ _ _ _ (.ls (List.map (dP dI dI) ([] : (List (Int × Int))))) _ from en_lst (dl := []) ea_nil (Nat.le_of_ble_eq_true rfl)) (fun l_1 nk_l_1 => ?_) rfl
    show Wp _ _ _ [.rf l_self, .rf l_1, .un, .un, .un] [(l_self, obj C_Costs dx_self names_Costs [.da (dI v_self.1), .da (dI v_self.2.1), .da (dI v_self.2.2.1), .da ((dL (dL dI)) v_self.2.2.2), .rf l_self_least]), (l_self_least, .ls (List.map (dL dI) v_self_least)), (l_1, .ls (List.map (dP dI dI) ([] : (List (Int × Int)))))]
    refine wp_asg (i := 2) (ev_int (i := 0)) ?_
    show Wp _ _ _ [.rf l_self, .rf l_1, .da (dI (0 : Int)), .un, .un] [(l_self, obj C_Costs dx_self names_Costs [.da (dI v_self.1), .da (dI v_self.2.1), .da (dI v_self.2.2.1), .da ((dL (dL dI)) v_self.2.2.2), .rf l_self_least]), (l_self_least, .ls (List.map (dL dI) v_self_least)), (l_1, .ls (List.map (dP dI dI) ([] : (List (Int × Int)))))]
    obtain ⟨rg2, q3, h0⟩ := bindS h0
    obtain ⟨k107, q106, h0⟩ := bindS h0
    refine wp_forC (fun (s_ : Int × (List (Int × Int))) => [.rf l_self, .rf l_1, .da (dI s_.1), .un, .un]) (fun (s_ : Int × (List (Int × Int))) => [(l_self, obj C_Costs dx_self names_Costs [.da (dI v_self.1), .da (dI v_self.2.1), .da (dI v_self.2.2.1), .da ((dL (dL dI)) v_self.2.2.2), .rf l_self_least]), (l_self_least, .ls (List.map (dL dI) v_self_least)), (l_1, .ls (List.map (dP dI dI) s_.2))]) (src_R1 (j := 3) (ea_cons (ev_fld 0 0 (ev_rf (i := 0) rfl) rfl rfl pa_Costs_many (Nat.le_of_ble_eq_true rfl) c_Costs na_Costs_many) ea_nil) q3) q106 (.cons .rfl (.cons .rfl (.cons .rfl (.cons .un (.cons .un Wks.nil))))) rfl (fun _ => True.intro) ?_ ?_
    · rintro lo1 ⟨v_mask40, c41⟩ v_i4 c_ hx1 h1 D1 he1 hn1 hct1 hbk1 hret1
      show Wp _ _ _ [.rf l_self, .rf l_1, .da (dI v_mask40), .da (dI v_i4), .un] [(l_self, obj C_Costs dx_self names_Costs [.da (dI v_self.1), .da (dI v_self.2.1), .da (dI v_self.2.2.1), .da ((dL (dL dI)) v_self.2.2.2), .rf l_self_least]), (l_self_least, .ls (List.map (dL dI) v_self_least)), (l_1, .ls (List.map (dP dI dI) c41))]
      obtain ⟨t73, q74, h1⟩ := bindS h1
      obtain ⟨t75, q76, h1⟩ := bindS h1
      obtain ⟨t77, q78, h1⟩ := bindS h1
      refine wp_if (et_test (ev_op (ev_methP (mc := [(l_self, obj C_Costs dx_self names_Costs [.da (dI v_self.1), .da (dI v_self.2.1), .da (dI v_self.2.2.1), .da ((dL (dL dI)) v_self.2.2.2), .rf l_self_least]), (l_self_least, .ls (List.map (dL dI) v_self_least))]) (mc' := [(l_self, obj C_Costs dx_self names_Costs [.da (dI v_self.1), .da (dI v_self.2.1), .da (dI v_self.2.2.1), .da ((dL (dL dI)) v_self.2.2.2), .rf l_self_least]), (l_self_least, .ls (List.map (dL dI) v_self_least))]) (fr := [(l_1, .ls (List.map (dP dI dI) c41))]) (m3 := [(l_self, obj C_Costs dx_self names_Costs [.da (dI v_self.1), .da (dI v_self.2.1), .da (dI v_self.2.2.1), .da ((dL (dL dI)) v_self.2.2.2), .rf l_self_least]), (l_self_least, .ls (List.map (dL dI) v_self_least)), (l_1, .ls (List.map (dP dI dI) c41))]) 0 (ev_rf (i := 0) rfl) rfl (Nat.le_of_ble_eq_true rfl) nm_Costs_rest (ea_cons (ev_var (i := 3) rfl) (ea_cons (ev_var (i := 2) rfl) ea_nil)) (perm_ix (n := 3) [0, 1, 2] rfl (by decide) rfl) (perm_ix (n := 3) [0, 1, 2] rfl (by decide) rfl) ⟨_, ⟨_, _, _, _, _, _, _, _, q74, rfl, rfl, rfl⟩, fun _ _ h => h⟩) (ev_op (ev_op (ev_fld 0 4 (ev_rf (i := 0) rfl) rfl rfl pa_Costs_least (Nat.le_of_ble_eq_true rfl) c_Costs na_Costs_least) (ev_var (i := 3) rfl) (rr_ixC (f := (dL dI)) 1 rfl q76)) (ev_var (i := 2) rfl) (rr_ixL (f := dI) q78)) rr_eqI)) (fun hc => ?_) (fun hc => ?_)
      · have h1 := condT hc h1
        refine wp_frz (i := 1) (j := 2) (l := l_1) rfl rfl nk_l_1 ?_
        show Wp _ _ _ [.rf l_self, .da ((dL (dP dI dI)) c41), .da (dI v_mask40), .da (dI v_i4), .un] [(l_self, obj C_Costs dx_self names_Costs [.da (dI v_self.1), .da (dI v_self.2.1), .da (dI v_self.2.2.1), .da ((dL (dL dI)) v_self.2.2.2), .rf l_self_least]), (l_self_least, .ls (List.map (dL dI) v_self_least))]
        cases h1
        have g1 := ctlK_rt (hret1 _ rfl) h0
        have e0_ := Option.some.inj g1
        subst e0_
        exact wp_retS (ev_var (i := 1) rfl) (fin_at hfin he1) ⟨rfl, rfl⟩ (List.Sublist.cons₂ _ (List.Sublist.cons₂ _ (List.nil_sublist _)))
      · have h1 := condF hc h1
        refine wp_next ?_
        obtain ⟨t79, q80, h1⟩ := bindS h1
        refine wp_asg (i := 4) (ev_methP (mc := [(l_self, obj C_Costs dx_self names_Costs [.da (dI v_self.1), .da (dI v_self.2.1), .da (dI v_self.2.2.1), .da ((dL (dL dI)) v_self.2.2.2), .rf l_self_least]), (l_self_least, .ls (List.map (dL dI) v_self_least))]) (mc' := [(l_self, obj C_Costs dx_self names_Costs [.da (dI v_self.1), .da (dI v_self.2.1), .da (dI v_self.2.2.1), .da ((dL (dL dI)) v_self.2.2.2), .rf l_self_least]), (l_self_least, .ls (List.map (dL dI) v_self_least))]) (fr := [(l_1, .ls (List.map (dP dI dI) c41))]) (m3 := [(l_self, obj C_Costs dx_self names_Costs [.da (dI v_self.1), .da (dI v_self.2.1), .da (dI v_self.2.2.1), .da ((dL (dL dI)) v_self.2.2.2), .rf l_self_least]), (l_self_least, .ls (List.map (dL dI) v_self_least)), (l_1, .ls (List.map (dP dI dI) c41))]) 0 (ev_rf (i := 0) rfl) rfl (Nat.le_of_ble_eq_true rfl) nm_Costs_partner (ea_cons (ev_var (i := 3) rfl) (ea_cons (ev_var (i := 2) rfl) ea_nil)) (perm_ix (n := 3) [0, 1, 2] rfl (by decide) rfl) (perm_ix (n := 3) [0, 1, 2] rfl (by decide) rfl) ⟨_, ⟨_, _, _, _, _, _, _, _, q80, rfl, rfl, rfl⟩, fun _ _ h => h⟩) ?_
        show Wp _ _ _ [.rf l_self, .rf l_1, .da (dI v_mask40), .da (dI v_i4), .da ((dO dI) t79)] [(l_self, obj C_Costs dx_self names_Costs [.da (dI v_self.1), .da (dI v_self.2.1), .da (dI v_self.2.2.1), .da ((dL (dL dI)) v_self.2.2.2), .rf l_self_least]), (l_self_least, .ls (List.map (dL dI) v_self_least)), (l_1, .ls (List.map (dP dI dI) c41))]
        obtain ⟨⟨v_mask91, c92⟩, q103, h1⟩ := bindS h1
        refine wp_cutIf (ds' := [.rf l_self, .rf l_1, .da (dI v_mask91), .da (dI v_i4), .da ((dO dI) t79)]) (m' := [(l_self, obj C_Costs dx_self names_Costs [.da (dI v_self.1), .da (dI v_self.2.1), .da (dI v_self.2.2.1), .da ((dL (dL dI)) v_self.2.2.2), .rf l_self_least]), (l_self_least, .ls (List.map (dL dI) v_self_least)), (l_1, .ls (List.map (dP dI dI) c92))]) ?_ (et_test (ev_op (ev_var (i := 4) rfl) ev_non (rr_notNo (f := dI)))) (fun hc => ?_) (fun hc => ?_)
        · cases h1
          exact wp_next fun σ H a => (hn1 _ rfl) σ H (at_weak (.cons .rfl (.cons .rfl (.cons .rfl (.cons .un (.cons .un Wks.nil))))) a)
        · have h103 := condT hc q103
          obtain ⟨w93, q94, h103⟩ := bindS h103
          obtain ⟨u95, q96, h103⟩ := bindS h103
          refine wp_expr (ev_bm (ev_rf (i := 1) rfl) (j := 2) rfl (ea_cons (show Ev _ _ _ _ (.da ((dP dI dI) (v_i4, w93))) _ from ev_tup (dl := [dI v_i4, dI w93]) (ea_cons (ev_var (i := 3) rfl) (ea_cons (ev_some (f := dI) (o := t79) (ev_var (i := 4) rfl) q94) ea_nil)) (Nat.le_of_ble_eq_true rfl)) ea_nil) (rm_app (f := (dP dI dI)) 2 rfl q96)) ?_
          show Wp _ _ _ [.rf l_self, .rf l_1, .da (dI v_mask40), .da (dI v_i4), .da ((dO dI) t79)] [(l_self, obj C_Costs dx_self names_Costs [.da (dI v_self.1), .da (dI v_self.2.1), .da (dI v_self.2.2.1), .da ((dL (dL dI)) v_self.2.2.2), .rf l_self_least]), (l_self_least, .ls (List.map (dL dI) v_self_least)), (l_1, .ls (List.map (dP dI dI) (c41 ++ [(v_i4, w93)])))]
          obtain ⟨w97, q98, h103⟩ := bindS h103
          obtain ⟨t99, q100, h103⟩ := bindS h103
          obtain ⟨v_mask101, q102, h103⟩ := bindS h103
          refine wp_asg (i := 2) (ev_eq (f := dI) (ev_op (ev_var (i := 2) rfl) (ev_op (ev_int (i := 1)) (ev_some (f := dI) (o := t79) (ev_var (i := 4) rfl) q98) (rr_shl q100)) (rr_i (f := Builtin.bitOr))) (Option.some.inj q102)) ?_
          show Wp _ _ _ [.rf l_self, .rf l_1, .da (dI v_mask101), .da (dI v_i4), .da ((dO dI) t79)] [(l_self, obj C_Costs dx_self names_Costs [.da (dI v_self.1), .da (dI v_self.2.1), .da (dI v_self.2.2.1), .da ((dL (dL dI)) v_self.2.2.2), .rf l_self_least]), (l_self_least, .ls (List.map (dL dI) v_self_least)), (l_1, .ls (List.map (dP dI dI) (c41 ++ [(v_i4, w93)])))]
          cases h103
          exact wp_nextW (.cons .rfl (.cons .rfl (.cons .rfl (.cons .rfl (.cons .rfl Wks.nil))))) rfl
        · have h103 := condF hc q103
          cases h103
          exact wp_nextW (.cons .rfl (.cons .rfl (.cons .rfl (.cons .rfl (.cons .rfl Wks.nil))))) rfl
    · rintro ⟨v_mask104, c105⟩ hk_
      have h0 := ctlK_go hk_ h0
      show Wp _ _ _ [.rf l_self, .rf l_1, .da (dI v_mask104), .un, .un] [(l_self, obj C_Costs dx_self names_Costs [.da (dI v_self.1), .da (dI v_self.2.1), .da (dI v_self.2.2.1), .da ((dL (dL dI)) v_self.2.2.2), .rf l_self_least]), (l_self_least, .ls (List.map (dL dI) v_self_least)), (l_1, .ls (List.map (dP dI dI) c105))]
      refine wp_frz (i := 1) (j := 2) (l := l_1) rfl rfl nk_l_1 ?_
      show Wp _ _ _ [.rf l_self, .da ((dL (dP dI dI)) c105), .da (dI v_mask104), .un, .un] [(l_self, obj C_Costs dx_self names_Costs [.da (dI v_self.1), .da (dI v_self.2.1), .da (dI v_self.2.2.1), .da ((dL (dL dI)) v_self.2.2.2), .rf l_self_least]), (l_self_least, .ls (List.map (dL dI) v_self_least))]
      have e0_ := Option.some.inj h0
      subst e0_
      exact wp_retS (ev_var (i := 1) rfl) hfin ⟨rfl, rfl⟩ (List.Sublist.cons₂ _ (List.Sublist.cons₂ _ (List.nil_sublist _)))
end K92
set_option maxHeartbeats 2000000
namespace K92
open PySem PySem.Spec PyProof.Rows L2 Evl FC
theorem ok_m_least_change {P : Program} {w : World} {K : PySem.W.Frag} {mg : Str → Option Value} {base : Heap} {f : Addr} {fd : FuncData} (FF : Fun K "least_change" "least_change" sm_least_change f fd) {C_Costs : Addr} (c_Costs : Cls K C_Costs) (na_Costs_least : NoAttr K C_Costs "least") {f_m_Costs_init : Addr} {fd_m_Costs_init : FuncData} (G_m_Costs_init : FnOk P w K mg base CX0 3 f_m_Costs_init fd_m_Costs_init ["self", "one", "other", "price"] (spOf K (pf_m_Costs_init C_Costs))) (mk_Costs : Mk K C_Costs f_m_Costs_init) (gc_Costs : mg "Costs" = some (.ref C_Costs)) (b_m_Costs_init : Binds K fd_m_Costs_init ["self", "one", "other", "price"] []) {f_m_Costs_first_pairs : Addr} {fd_m_Costs_first_pairs : FuncData} (G_m_Costs_first_pairs : FnOk P w K mg base CX0 3 f_m_Costs_first_pairs fd_m_Costs_first_pairs ["self"] (spOf K (pf_m_Costs_first_pairs C_Costs))) (mt_m_Costs_first_pairs : Meth K C_Costs "first_pairs" f_m_Costs_first_pairs) (b_m_Costs_first_pairs : Binds K fd_m_Costs_first_pairs ["self"] []) : FnOk P w K mg base CX0 5 f fd ["one", "other", "price"] (spOf K (pf_m_least_change)) := by
  refine ok_of (N := N_m_least_change) FF sc_m_least_change (fun as m R hG => ?_) (fun cdv A outer s H E hr => ?_)
  · obtain ⟨v_one, v_other, v_price, r_, _, rfl, _⟩ := hG
    rfl
  · have nd : (N_m_least_change : List Str).Nodup := sc_m_least_change.nd
    refine ⟨_, (pss_cons (ps_set (i := 3) nd rfl (Or.inl rfl) (pe_make mk_Costs G_m_Costs_init (hr.mono (by decide)) (by rfl) gc_Costs b_m_Costs_init .nil pass0 (pa_cons (pv 0) (pa_cons (pv 1) (pa_cons (pv 2) pa_nil)))))
      (pss_cons (ps_ret (pe_tup (pa_cons (pe_ix (kIx (r := rIxL) (K := K) ix_list rfl) (pe_ix (kIx (r := rIxL) (K := K) ix_list rfl) (kPe (r := fun K => tFld K _ _) (K := K) (pe_fld (pv 3) rfl) rfl) pe_int (fun _ _ => rfl)) pe_int (fun _ _ => rfl)) (pa_cons (pe_meth0 (pv 3) c_Costs mt_m_Costs_first_pairs G_m_Costs_first_pairs (hr.mono (by decide)) b_m_Costs_first_pairs .nil pass0) pa_nil)))) pss_nil)), ?_⟩
    rintro as m R ⟨v_one, v_other, v_price, r_, h0, rfl, rfl, rfl⟩ F D rfl hk hfin hnx
    unfold m_least_change at h0
    show Wp _ _ _ [.da ((dL (dU dI)) v_one), .da ((dL (dU dI)) v_other), .da (dI v_price), .un] []
    obtain ⟨⟨c1, c2⟩, q3, h0⟩ := bindS h0
    refine wp_make (names := names_Costs) (Good := (fun l_4 dx_5 m2_ => ∃ l_6, m2_ = [(l_4, obj C_Costs dx_5 names_Costs [.da (dI c1.1), .da (dI c1.2.1), .da (dI c1.2.2.1), .da ((dL (dL dI)) c1.2.2.2), .rf l_6]), (l_6, .ls (List.map (dL dI) c2))])) (i := 3) (ea_cons (ev_var (i := 0) rfl) (ea_cons (ev_var (i := 1) rfl) (ea_cons (ev_var (i := 2) rfl) ea_nil))) (fun p_ dx_ => ⟨_, ⟨_, _, _, _, _, _, _, q3, rfl, rfl, rfl⟩, fun _ _ hr_ => hr_⟩) ?_ rfl
    rintro l_4 dx_5 _ ⟨l_6, rfl⟩ nk_l_4
    show Wp _ _ _ [.da ((dL (dU dI)) v_one), .da ((dL (dU dI)) v_other), .da (dI v_price), .rf l_4] [(l_4, obj C_Costs dx_5 names_Costs [.da (dI c1.1), .da (dI c1.2.1), .da (dI c1.2.2.1), .da ((dL (dL dI)) c1.2.2.2), .rf l_6]), (l_6, .ls (List.map (dL dI) c2))]
    obtain ⟨t7, q8, h0⟩ := bindS h0
    obtain ⟨t9, q10, h0⟩ := bindS h0
    obtain ⟨t11, q12, h0⟩ := bindS h0
    have e0_ := Option.some.inj h0
    subst e0_
    exact wp_retS (show Ev _ _ _ _ (.da ((dP dI (dL (dP dI dI))) (t9, t11))) _ from ev_tup (dl := [dI t9, (dL (dP dI dI)) t11]) (ea_cons (ev_op (ev_op (ev_fld 0 4 (ev_rf (i := 3) rfl) rfl rfl pa_Costs_least (Nat.le_of_ble_eq_true rfl) c_Costs na_Costs_least) (ev_int (i := 0)) (rr_ixC (f := (dL dI)) 1 rfl q8)) (ev_int (i := 0)) (rr_ixL (f := dI) q10)) (ea_cons (ev_methP (mc := [(l_4, obj C_Costs dx_5 names_Costs [.da (dI c1.1), .da (dI c1.2.1), .da (dI c1.2.2.1), .da ((dL (dL dI)) c1.2.2.2), .rf l_6]), (l_6, .ls (List.map (dL dI) c2))]) (mc' := [(l_4, obj C_Costs dx_5 names_Costs [.da (dI c1.1), .da (dI c1.2.1), .da (dI c1.2.2.1), .da ((dL (dL dI)) c1.2.2.2), .rf l_6]), (l_6, .ls (List.map (dL dI) c2))]) (fr := []) (m3 := [(l_4, obj C_Costs dx_5 names_Costs [.da (dI c1.1), .da (dI c1.2.1), .da (dI c1.2.2.1), .da ((dL (dL dI)) c1.2.2.2), .rf l_6]), (l_6, .ls (List.map (dL dI) c2))]) 0 (ev_rf (i := 3) rfl) rfl (Nat.le_of_ble_eq_true rfl) nm_Costs_first_pairs ea_nil (perm_ix (n := 2) [0, 1] rfl (by decide) rfl) (perm_ix (n := 2) [0, 1] rfl (by decide) rfl) ⟨_, ⟨_, _, _, _, _, _, q12, rfl, rfl, rfl⟩, fun _ _ h => h⟩) ea_nil)) (Nat.le_of_ble_eq_true rfl)) hfin ⟨rfl, rfl⟩ (List.nil_sublist _)
end K92
set_option maxHeartbeats 2000000
namespace K92
open PySem PySem.Spec PyProof.Rows L2 Evl FC
theorem ok_m_bounds_between {P : Program} {w : World} {K : PySem.W.Frag} {mg : Str → Option Value} {base : Heap} {f : Addr} {fd : FuncData} (FF : Fun K "bounds_between" "bounds_between" sm_bounds_between f fd) {f_m_apart : Addr} {fd_m_apart : FuncData} (G_m_apart : FnOk P w K mg base CX0 1 f_m_apart fd_m_apart ["one", "other"] (spOf K (pf_m_apart))) (g_m_apart : mg "apart" = some (.ref f_m_apart)) (k_m_apart : PySem.W.keepIn K (.ref f_m_apart) = true) (b_m_apart : Binds K fd_m_apart ["one", "other"] []) (n_dict : mg "dict" = none) (n_len : mg "len" = none) (n_range : mg "range" = none) : FnOk P w K mg base CX0 2 f fd ["one", "other", "price", "pairs"] (spOf K (pf_m_bounds_between)) := by
  refine ok_of (N := N_m_bounds_between) FF sc_m_bounds_between (fun as m R hG => ?_) (fun cdv A outer s H E hr => ?_)
  · obtain ⟨v_one, v_other, v_price, v_pairs, r_, _, rfl, _⟩ := hG
    rfl
  · have nd : (N_m_bounds_between : List Str).Nodup := sc_m_bounds_between.nd
    refine ⟨_, (pss_cons (ps_set (i := 4) nd rfl (Or.inl rfl) (pe_callB (kCa (r := rLenA) (K := K) call_len_seq rfl) (by rfl) n_len (by decide +kernel) (pa_cons (pv 0) pa_nil)))
      (pss_cons (ps_set (i := 5) nd rfl (Or.inl rfl) (pe_callTy (kCa (r := rDictP) (K := K) (cr_dictP rfl) rfl) (by rfl) n_dict (by decide +kernel) (pa_cons (pv 3) pa_nil)))
      (pss_cons (ps_setLc (i := 8) (own := [("i", 6), ("j", 7)]) (g := gTup K 2 (gCons (gName 6) (gCons (gName 7) gNil))) (tt := tYes) rfl nd rfl rfl (sw_true rfl rfl rfl (by decide +kernel)) (kPi (r := fun K => iList K _) (K := K) (pi_list (pv 3)) rfl) (blkOk_by (own := [("i", 6), ("j", 7)]) (N := N_m_bounds_between) (sc := (defScope sm_bounds_between)) (by decide +kernel)) (fun _ _ _ _ _ => (pg_tup rfl (pgs_cons (pg_name (i := 6) nd rfl (by first | exact Or.inl rfl | exact Or.inr rfl)) (pgs_cons (pg_name (i := 7) nd rfl (by first | exact Or.inl rfl | exact Or.inr rfl)) pgs_nil)))) (fun _ _ _ _ _ => pts_nil) (fun _ _ _ _ _ => (pv 7)))
      (pss_cons (ps_set (i := 9) nd rfl (Or.inl rfl) (pe_lst pa_nil))
      (pss_cons (ps_for PassesOwn.never rfl (pi_range1 (by rfl) n_range (pa_cons (pv 4) pa_nil)) (pg_name (i := 6) nd rfl (by first | exact Or.inl rfl | exact Or.inr rfl))
      (pss_cons (ps_expr (pe_bm PySem.F.plainAttrs_list PySem.F.slot_list_append PySem.F.type_list_append mt_append (pv 9) (pa_cons (pe_tup (pa_cons pe_int (pa_cons (pe_op op_add pe_int (pv 6)) (pa_cons (pv 2) pa_nil)))) pa_nil)))
      (pss_cons (ps_for PassesOwn.never rfl (pi_range1 (by rfl) n_range (pa_cons (pe_callB (kCa (r := rLenA) (K := K) call_len_seq rfl) (by rfl) n_len (by decide +kernel) (pa_cons (pv 1) pa_nil)) pa_nil)) (pg_name (i := 7) nd rfl (by first | exact Or.inl rfl | exact Or.inr rfl))
      (pss_cons (ps_expr (pe_bm PySem.F.plainAttrs_list PySem.F.slot_list_append PySem.F.type_list_append mt_append (pv 9) (pa_cons (pe_tup (pa_cons (pe_op op_add (pe_op op_add pe_int (pv 4)) (pv 7)) (pa_cons (pe_op op_add pe_int (pv 6)) (pa_cons (pe_call G_m_apart (hr.mono (by decide)) (by rfl) g_m_apart k_m_apart b_m_apart .nil pass0 (pa_cons (pe_ix (kIx (r := rIxL) (K := K) ix_list rfl) (pv 0) (pv 6) (fun _ _ => rfl)) (pa_cons (pe_ix (kIx (r := rIxL) (K := K) ix_list rfl) (pv 1) (pv 7) (fun _ _ => rfl)) pa_nil))) pa_nil)))) pa_nil)))
      pss_nil))
      (Evl.pss_cut (ps_if (pt_cmp (pc_din (hu_of hr) (pv 6) (pv 5))) (pss_cons (ps_expr (pe_bm PySem.F.plainAttrs_list PySem.F.slot_list_append PySem.F.type_list_append mt_append (pv 9) (pa_cons (pe_tup (pa_cons (pe_op op_add pe_int (pv 6)) (pa_cons (pe_op op_add (pe_op op_add pe_int (pv 4)) (pe_dget (hu_of hr) (pv 5) (pv 6) (fun _ _ => rfl))) (pa_cons (pe_op op_sub pe_int (pe_call G_m_apart (hr.mono (by decide)) (by rfl) g_m_apart k_m_apart b_m_apart .nil pass0 (pa_cons (pe_ix (kIx (r := rIxL) (K := K) ix_list rfl) (pv 0) (pv 6) (fun _ _ => rfl)) (pa_cons (pe_ix (kIx (r := rIxL) (K := K) ix_list rfl) (pv 1) (pe_dget (hu_of hr) (pv 5) (pv 6) (fun _ _ => rfl)) (fun _ _ => rfl)) pa_nil)))) pa_nil)))) pa_nil)))
      pss_nil) (pss_cons (ps_expr (pe_bm PySem.F.plainAttrs_list PySem.F.slot_list_append PySem.F.type_list_append mt_append (pv 9) (pa_cons (pe_tup (pa_cons (pe_op op_add pe_int (pv 6)) (pa_cons pe_int (pa_cons (pe_op op_sub pe_int (pv 2)) pa_nil)))) pa_nil)))
      pss_nil))
      pss_nil))))
      (pss_cons (ps_for PassesOwn.never rfl (pi_range1 (by rfl) n_range (pa_cons (pe_callB (kCa (r := rLenA) (K := K) call_len_seq rfl) (by rfl) n_len (by decide +kernel) (pa_cons (pv 1) pa_nil)) pa_nil)) (pg_name (i := 7) nd rfl (by first | exact Or.inl rfl | exact Or.inr rfl))
      (pss_cons (ps_expr (pe_bm PySem.F.plainAttrs_list PySem.F.slot_list_append PySem.F.type_list_append mt_append (pv 9) (pa_cons (pe_tup (pa_cons (pe_op op_add (pe_op op_add pe_int (pv 4)) (pv 7)) (pa_cons pe_int (pa_cons (pv 2) pa_nil)))) pa_nil)))
      (Evl.pss_cut (ps_if (pt_cmpR (kOp (r := fun K => rInP K true) (K := K) (op_notInP (hu65 hr)) rfl) (pv 7) (pv 8) (by rfl)) (pss_cons (ps_expr (pe_bm PySem.F.plainAttrs_list PySem.F.slot_list_append PySem.F.type_list_append mt_append (pv 9) (pa_cons (pe_tup (pa_cons pe_int (pa_cons (pe_op op_add (pe_op op_add pe_int (pv 4)) (pv 7)) (pa_cons (pe_op op_sub pe_int (pv 2)) pa_nil)))) pa_nil)))
      pss_nil) pss_nil)
      pss_nil)))
      (pss_cons (ps_ret (pv 9)) pss_nil))))))), ?_⟩
    rintro as m R ⟨v_one, v_other, v_price, v_pairs, r_, h0, rfl, rfl, rfl⟩ F D rfl hk hfin hnx
    unfold m_bounds_between at h0
    show Wp _ _ _ [.da ((dL (dU dI)) v_one), .da ((dL (dU dI)) v_other), .da (dI v_price), .da ((dL (dP dI dI)) v_pairs), .un, .un, .un, .un, .un, .un] []
    obtain ⟨v_many1, q2, h0⟩ := bindS h0
    refine wp_asg (i := 4) (ev_eq (f := dI) (ev_cb (ea_cons (ev_var (i := 0) rfl) ea_nil) (rc_lenL (f := (dU dI)))) (Option.some.inj q2)) ?_
    show Wp _ _ _ [.da ((dL (dU dI)) v_one), .da ((dL (dU dI)) v_other), .da (dI v_price), .da ((dL (dP dI dI)) v_pairs), .da (dI v_many1), .un, .un, .un, .un, .un] []
    obtain ⟨d4, q5, h0⟩ := bindS h0
    refine wp_asgN (i := 5) (en_cb (ea_cons (ev_var (i := 3) rfl) ea_nil) (rcn_dictP (f := dI) q5)) (fun l_3 nk_l_3 => ?_) rfl
    show Wp _ _ _ [.da ((dL (dU dI)) v_one), .da ((dL (dU dI)) v_other), .da (dI v_price), .da ((dL (dP dI dI)) v_pairs), .da (dI v_many1), .rf l_3, .un, .un, .un, .un] [(l_3, KK.cell (κ := Int) dI d4)]
    obtain ⟨u7, q8, h0⟩ := bindS h0
    obtain ⟨v_taken9, q10, h0⟩ := bindS h0
    refine wp_asg (i := 8) (ev_eq (f := (dL dI)) (lc_end (lc_map (f2 := dI) (step := fun x => some ((fun (p_ : (Int × Int)) => (fun (v_i6 : Int) (v_j6 : Int) => v_j6) p_.1 p_.2) x)) (src_LP (f := dI) (f2 := dI) (j := 6) (k := 7) (ev_var (i := 3) rfl)) (by decide) (fun _ => True.intro) q8 (mapO_pure _) (by rintro ⟨v_i6, v_j6⟩ y_ hx_ h_; cases h_; exact (ev_var (i := 7) rfl)))) (Option.some.inj q10)) ?_
    show Wp _ _ _ [.da ((dL (dU dI)) v_one), .da ((dL (dU dI)) v_other), .da (dI v_price), .da ((dL (dP dI dI)) v_pairs), .da (dI v_many1), .rf l_3, .un, .un, .da ((dL dI) v_taken9), .un] [(l_3, KK.cell (κ := Int) dI d4)]
    refine wp_asgN (i := 9) (show EvN _ _ _ _ (.ls (List.map (d3 dI dI dI) ([] : (List (Int × Int × Int))))) _ from en_lst (dl := []) ea_nil (Nat.le_of_ble_eq_true rfl)) (fun l_11 nk_l_11 => ?_) rfl
    show Wp _ _ _ [.da ((dL (dU dI)) v_one), .da ((dL (dU dI)) v_other), .da (dI v_price), .da ((dL (dP dI dI)) v_pairs), .da (dI v_many1), .rf l_3, .un, .un, .da ((dL dI) v_taken9), .rf l_11] [(l_3, KK.cell (κ := Int) dI d4), (l_11, .ls (List.map (d3 dI dI dI) ([] : (List (Int × Int × Int)))))]
    obtain ⟨rg12, q13, h0⟩ := bindS h0
    obtain ⟨c210, q243, h0⟩ := bindS h0
    refine wp_forF (fun (s_ : (List (Int × Int × Int))) => [.da ((dL (dU dI)) v_one), .da ((dL (dU dI)) v_other), .da (dI v_price), .da ((dL (dP dI dI)) v_pairs), .da (dI v_many1), .rf l_3, .un, .un, .da ((dL dI) v_taken9), .rf l_11]) (fun (s_ : (List (Int × Int × Int))) => [(l_3, KK.cell (κ := Int) dI d4), (l_11, .ls (List.map (d3 dI dI dI) s_))]) (src_R1 (j := 6) (ea_cons (ev_var (i := 4) rfl) ea_nil) q13) q243 (.cons .rfl (.cons .rfl (.cons .rfl (.cons .rfl (.cons .rfl (.cons .rfl (.cons .un (.cons .un (.cons .rfl (.cons .rfl Wks.nil)))))))))) rfl (fun _ => True.intro) ?_ ?_
    · rintro lo1 c81 v_i14 s_ hx1 h1 D1 he1 hn1 hct1
      show Wp _ _ _ [.da ((dL (dU dI)) v_one), .da ((dL (dU dI)) v_other), .da (dI v_price), .da ((dL (dP dI dI)) v_pairs), .da (dI v_many1), .rf l_3, .da (dI v_i14), .un, .da ((dL dI) v_taken9), .rf l_11] [(l_3, KK.cell (κ := Int) dI d4), (l_11, .ls (List.map (d3 dI dI dI) c81))]
      obtain ⟨u146, q147, h1⟩ := bindS h1
      refine wp_expr (ev_bm (ev_rf (i := 9) rfl) (j := 1) rfl (ea_cons (show Ev _ _ _ _ (.da ((d3 dI dI dI) ((0 : Int), ((1 : Int) + v_i14), v_price))) _ from ev_tup (dl := [dI (0 : Int), dI ((1 : Int) + v_i14), dI v_price]) (ea_cons (ev_int (i := 0)) (ea_cons (ev_op (ev_int (i := 1)) (ev_var (i := 6) rfl) rr_i) (ea_cons (ev_var (i := 2) rfl) ea_nil))) (Nat.le_of_ble_eq_true rfl)) ea_nil) (rm_app (f := (d3 dI dI dI)) 1 rfl q147)) ?_
      show Wp _ _ _ [.da ((dL (dU dI)) v_one), .da ((dL (dU dI)) v_other), .da (dI v_price), .da ((dL (dP dI dI)) v_pairs), .da (dI v_many1), .rf l_3, .da (dI v_i14), .un, .da ((dL dI) v_taken9), .rf l_11] [(l_3, KK.cell (κ := Int) dI d4), (l_11, .ls (List.map (d3 dI dI dI) (c81 ++ [((0 : Int), ((1 : Int) + v_i14), v_price)])))]
      obtain ⟨rg148, q149, h1⟩ := bindS h1
      obtain ⟨c178, q209, h1⟩ := bindS h1
      refine wp_forF (fun (s_ : (List (Int × Int × Int))) => [.da ((dL (dU dI)) v_one), .da ((dL (dU dI)) v_other), .da (dI v_price), .da ((dL (dP dI dI)) v_pairs), .da (dI v_many1), .rf l_3, .da (dI v_i14), .un, .da ((dL dI) v_taken9), .rf l_11]) (fun (s_ : (List (Int × Int × Int))) => [(l_3, KK.cell (κ := Int) dI d4), (l_11, .ls (List.map (d3 dI dI dI) s_))]) (src_R1 (j := 7) (ea_cons (ev_cb (ea_cons (ev_var (i := 1) rfl) ea_nil) (rc_lenL (f := (dU dI)))) ea_nil) q149) q209 (.cons .rfl (.cons .rfl (.cons .rfl (.cons .rfl (.cons .rfl (.cons .rfl (.cons .rfl (.cons .un (.cons .rfl (.cons .rfl Wks.nil)))))))))) rfl (fun _ => True.intro) ?_ ?_
      · rintro lo2 c161 v_j150 s_ hx2 h2 D2 he2 hn2 hct2
        show Wp _ _ _ [.da ((dL (dU dI)) v_one), .da ((dL (dU dI)) v_other), .da (dI v_price), .da ((dL (dP dI dI)) v_pairs), .da (dI v_many1), .rf l_3, .da (dI v_i14), .da (dI v_j150), .da ((dL dI) v_taken9), .rf l_11] [(l_3, KK.cell (κ := Int) dI d4), (l_11, .ls (List.map (d3 dI dI dI) c161))]
        obtain ⟨t170, q171, h2⟩ := bindS h2
        obtain ⟨t172, q173, h2⟩ := bindS h2
        obtain ⟨t174, q175, h2⟩ := bindS h2
        obtain ⟨u176, q177, h2⟩ := bindS h2
        refine wp_expr (ev_bm (ev_rf (i := 9) rfl) (j := 1) rfl (ea_cons (show Ev _ _ _ _ (.da ((d3 dI dI dI) ((((1 : Int) + v_many1) + v_j150), ((1 : Int) + v_i14), t174))) _ from ev_tup (dl := [dI (((1 : Int) + v_many1) + v_j150), dI ((1 : Int) + v_i14), dI t174]) (ea_cons (ev_op (ev_op (ev_int (i := 1)) (ev_var (i := 4) rfl) rr_i) (ev_var (i := 7) rfl) rr_i) (ea_cons (ev_op (ev_int (i := 1)) (ev_var (i := 6) rfl) rr_i) (ea_cons (ev_call (ea_cons (ev_op (ev_var (i := 0) rfl) (ev_var (i := 6) rfl) (rr_ixL (f := (dU dI)) q171)) (ea_cons (ev_op (ev_var (i := 1) rfl) (ev_var (i := 7) rfl) (rr_ixL (f := (dU dI)) q173)) ea_nil)) ⟨_, ⟨_, _, _, q175, rfl, rfl, rfl⟩, fun _ _ h => h⟩) ea_nil))) (Nat.le_of_ble_eq_true rfl)) ea_nil) (rm_app (f := (d3 dI dI dI)) 1 rfl q177)) ?_
        show Wp _ _ _ [.da ((dL (dU dI)) v_one), .da ((dL (dU dI)) v_other), .da (dI v_price), .da ((dL (dP dI dI)) v_pairs), .da (dI v_many1), .rf l_3, .da (dI v_i14), .da (dI v_j150), .da ((dL dI) v_taken9), .rf l_11] [(l_3, KK.cell (κ := Int) dI d4), (l_11, .ls (List.map (d3 dI dI dI) (c161 ++ [((((1 : Int) + v_many1) + v_j150), ((1 : Int) + v_i14), t174)])))]
        cases h2
        exact wp_next fun σ H a => hn2 σ H (at_weak (.cons .rfl (.cons .rfl (.cons .rfl (.cons .rfl (.cons .rfl (.cons .rfl (.cons .rfl (.cons .un (.cons .rfl (.cons .rfl Wks.nil)))))))))) a)
      · show Wp _ _ _ [.da ((dL (dU dI)) v_one), .da ((dL (dU dI)) v_other), .da (dI v_price), .da ((dL (dP dI dI)) v_pairs), .da (dI v_many1), .rf l_3, .da (dI v_i14), .un, .da ((dL dI) v_taken9), .rf l_11] [(l_3, KK.cell (κ := Int) dI d4), (l_11, .ls (List.map (d3 dI dI dI) c178))]
        obtain ⟨c193, q208, h1⟩ := bindS h1
        refine wp_cutIf (ds' := [.da ((dL (dU dI)) v_one), .da ((dL (dU dI)) v_other), .da (dI v_price), .da ((dL (dP dI dI)) v_pairs), .da (dI v_many1), .rf l_3, .da (dI v_i14), .un, .da ((dL dI) v_taken9), .rf l_11]) (m' := [(l_3, KK.cell (κ := Int) dI d4), (l_11, .ls (List.map (d3 dI dI dI) c193))]) ?_ (et_val (ev_din (f := dI) 0 (ev_var (i := 6) rfl) (ev_rf (i := 5) rfl) rfl)) (fun hc => ?_) (fun hc => ?_)
        · cases h1
          exact wp_next fun σ H a => hn1 σ H (at_weak (.cons .rfl (.cons .rfl (.cons .rfl (.cons .rfl (.cons .rfl (.cons .rfl (.cons .un (.cons .un (.cons .rfl (.cons .rfl Wks.nil)))))))))) a)
        · have h103 := condT hc q208
          obtain ⟨t194, q195, h103⟩ := bindS h103
          obtain ⟨t196, q197, h103⟩ := bindS h103
          obtain ⟨t198, q199, h103⟩ := bindS h103
          obtain ⟨t200, q201, h103⟩ := bindS h103
          obtain ⟨t202, q203, h103⟩ := bindS h103
          obtain ⟨u204, q205, h103⟩ := bindS h103
          refine wp_expr (ev_bm (ev_rf (i := 9) rfl) (j := 1) rfl (ea_cons (show Ev _ _ _ _ (.da ((d3 dI dI dI) (((1 : Int) + v_i14), (((1 : Int) + v_many1) + t194), ((0 : Int) - t202)))) _ from ev_tup (dl := [dI ((1 : Int) + v_i14), dI (((1 : Int) + v_many1) + t194), dI ((0 : Int) - t202)]) (ea_cons (ev_op (ev_int (i := 1)) (ev_var (i := 6) rfl) rr_i) (ea_cons (ev_op (ev_op (ev_int (i := 1)) (ev_var (i := 4) rfl) rr_i) (ev_dget (f := dI) 0 (ev_rf (i := 5) rfl) (ev_var (i := 6) rfl) rfl q195) rr_i) (ea_cons (ev_op (ev_int (i := 0)) (ev_call (ea_cons (ev_op (ev_var (i := 0) rfl) (ev_var (i := 6) rfl) (rr_ixL (f := (dU dI)) q197)) (ea_cons (ev_op (ev_var (i := 1) rfl) (ev_dget (f := dI) 0 (ev_rf (i := 5) rfl) (ev_var (i := 6) rfl) rfl q199) (rr_ixL (f := (dU dI)) q201)) ea_nil)) ⟨_, ⟨_, _, _, q203, rfl, rfl, rfl⟩, fun _ _ h => h⟩) rr_i) ea_nil))) (Nat.le_of_ble_eq_true rfl)) ea_nil) (rm_app (f := (d3 dI dI dI)) 1 rfl q205)) ?_
          show Wp _ _ _ [.da ((dL (dU dI)) v_one), .da ((dL (dU dI)) v_other), .da (dI v_price), .da ((dL (dP dI dI)) v_pairs), .da (dI v_many1), .rf l_3, .da (dI v_i14), .un, .da ((dL dI) v_taken9), .rf l_11] [(l_3, KK.cell (κ := Int) dI d4), (l_11, .ls (List.map (d3 dI dI dI) (c178 ++ [(((1 : Int) + v_i14), (((1 : Int) + v_many1) + t194), ((0 : Int) - t202))])))]
          cases h103
          exact wp_nextW (.cons .rfl (.cons .rfl (.cons .rfl (.cons .rfl (.cons .rfl (.cons .rfl (.cons .rfl (.cons .un (.cons .rfl (.cons .rfl Wks.nil)))))))))) rfl
        · have h103 := condF hc q208
          obtain ⟨u206, q207, h103⟩ := bindS h103
          refine wp_expr (ev_bm (ev_rf (i := 9) rfl) (j := 1) rfl (ea_cons (show Ev _ _ _ _ (.da ((d3 dI dI dI) (((1 : Int) + v_i14), (0 : Int), ((0 : Int) - v_price)))) _ from ev_tup (dl := [dI ((1 : Int) + v_i14), dI (0 : Int), dI ((0 : Int) - v_price)]) (ea_cons (ev_op (ev_int (i := 1)) (ev_var (i := 6) rfl) rr_i) (ea_cons (ev_int (i := 0)) (ea_cons (ev_op (ev_int (i := 0)) (ev_var (i := 2) rfl) rr_i) ea_nil))) (Nat.le_of_ble_eq_true rfl)) ea_nil) (rm_app (f := (d3 dI dI dI)) 1 rfl q207)) ?_
          show Wp _ _ _ [.da ((dL (dU dI)) v_one), .da ((dL (dU dI)) v_other), .da (dI v_price), .da ((dL (dP dI dI)) v_pairs), .da (dI v_many1), .rf l_3, .da (dI v_i14), .un, .da ((dL dI) v_taken9), .rf l_11] [(l_3, KK.cell (κ := Int) dI d4), (l_11, .ls (List.map (d3 dI dI dI) (c178 ++ [(((1 : Int) + v_i14), (0 : Int), ((0 : Int) - v_price))])))]
          cases h103
          exact wp_nextW (.cons .rfl (.cons .rfl (.cons .rfl (.cons .rfl (.cons .rfl (.cons .rfl (.cons .rfl (.cons .un (.cons .rfl (.cons .rfl Wks.nil)))))))))) rfl
    · show Wp _ _ _ [.da ((dL (dU dI)) v_one), .da ((dL (dU dI)) v_other), .da (dI v_price), .da ((dL (dP dI dI)) v_pairs), .da (dI v_many1), .rf l_3, .un, .un, .da ((dL dI) v_taken9), .rf l_11] [(l_3, KK.cell (κ := Int) dI d4), (l_11, .ls (List.map (d3 dI dI dI) c210))]
      obtain ⟨rg211, q212, h0⟩ := bindS h0
      obtain ⟨c241, q242, h0⟩ := bindS h0
      refine wp_forF (fun (s_ : (List (Int × Int × Int))) => [.da ((dL (dU dI)) v_one), .da ((dL (dU dI)) v_other), .da (dI v_price), .da ((dL (dP dI dI)) v_pairs), .da (dI v_many1), .rf l_3, .un, .un, .da ((dL dI) v_taken9), .rf l_11]) (fun (s_ : (List (Int × Int × Int))) => [(l_3, KK.cell (κ := Int) dI d4), (l_11, .ls (List.map (d3 dI dI dI) s_))]) (src_R1 (j := 7) (ea_cons (ev_cb (ea_cons (ev_var (i := 1) rfl) ea_nil) (rc_lenL (f := (dU dI)))) ea_nil) q212) q242 (.cons .rfl (.cons .rfl (.cons .rfl (.cons .rfl (.cons .rfl (.cons .rfl (.cons .un (.cons .un (.cons .rfl (.cons .rfl Wks.nil)))))))))) rfl (fun _ => True.intro) ?_ ?_
      · rintro lo1 c224 v_j213 s_ hx1 h1 D1 he1 hn1 hct1
        show Wp _ _ _ [.da ((dL (dU dI)) v_one), .da ((dL (dU dI)) v_other), .da (dI v_price), .da ((dL (dP dI dI)) v_pairs), .da (dI v_many1), .rf l_3, .un, .da (dI v_j213), .da ((dL dI) v_taken9), .rf l_11] [(l_3, KK.cell (κ := Int) dI d4), (l_11, .ls (List.map (d3 dI dI dI) c224))]
        obtain ⟨u233, q234, h1⟩ := bindS h1
        refine wp_expr (ev_bm (ev_rf (i := 9) rfl) (j := 1) rfl (ea_cons (show Ev _ _ _ _ (.da ((d3 dI dI dI) ((((1 : Int) + v_many1) + v_j213), (0 : Int), v_price))) _ from ev_tup (dl := [dI (((1 : Int) + v_many1) + v_j213), dI (0 : Int), dI v_price]) (ea_cons (ev_op (ev_op (ev_int (i := 1)) (ev_var (i := 4) rfl) rr_i) (ev_var (i := 7) rfl) rr_i) (ea_cons (ev_int (i := 0)) (ea_cons (ev_var (i := 2) rfl) ea_nil))) (Nat.le_of_ble_eq_true rfl)) ea_nil) (rm_app (f := (d3 dI dI dI)) 1 rfl q234)) ?_
        show Wp _ _ _ [.da ((dL (dU dI)) v_one), .da ((dL (dU dI)) v_other), .da (dI v_price), .da ((dL (dP dI dI)) v_pairs), .da (dI v_many1), .rf l_3, .un, .da (dI v_j213), .da ((dL dI) v_taken9), .rf l_11] [(l_3, KK.cell (κ := Int) dI d4), (l_11, .ls (List.map (d3 dI dI dI) (c224 ++ [((((1 : Int) + v_many1) + v_j213), (0 : Int), v_price)])))]
        obtain ⟨c237, q240, h1⟩ := bindS h1
        refine wp_cutIf (ds' := [.da ((dL (dU dI)) v_one), .da ((dL (dU dI)) v_other), .da (dI v_price), .da ((dL (dP dI dI)) v_pairs), .da (dI v_many1), .rf l_3, .un, .da (dI v_j213), .da ((dL dI) v_taken9), .rf l_11]) (m' := [(l_3, KK.cell (κ := Int) dI d4), (l_11, .ls (List.map (d3 dI dI dI) c237))]) ?_ (et_test (ev_op (ev_var (i := 7) rfl) (ev_var (i := 8) rfl) (rr_notIn (f := dI) (by decide)))) (fun hc => ?_) (fun hc => ?_)
        · cases h1
          exact wp_next fun σ H a => hn1 σ H (at_weak (.cons .rfl (.cons .rfl (.cons .rfl (.cons .rfl (.cons .rfl (.cons .rfl (.cons .un (.cons .un (.cons .rfl (.cons .rfl Wks.nil)))))))))) a)
        · have h106 := condT hc q240
          obtain ⟨u238, q239, h106⟩ := bindS h106
          refine wp_expr (ev_bm (ev_rf (i := 9) rfl) (j := 1) rfl (ea_cons (show Ev _ _ _ _ (.da ((d3 dI dI dI) ((0 : Int), (((1 : Int) + v_many1) + v_j213), ((0 : Int) - v_price)))) _ from ev_tup (dl := [dI (0 : Int), dI (((1 : Int) + v_many1) + v_j213), dI ((0 : Int) - v_price)]) (ea_cons (ev_int (i := 0)) (ea_cons (ev_op (ev_op (ev_int (i := 1)) (ev_var (i := 4) rfl) rr_i) (ev_var (i := 7) rfl) rr_i) (ea_cons (ev_op (ev_int (i := 0)) (ev_var (i := 2) rfl) rr_i) ea_nil))) (Nat.le_of_ble_eq_true rfl)) ea_nil) (rm_app (f := (d3 dI dI dI)) 1 rfl q239)) ?_
          show Wp _ _ _ [.da ((dL (dU dI)) v_one), .da ((dL (dU dI)) v_other), .da (dI v_price), .da ((dL (dP dI dI)) v_pairs), .da (dI v_many1), .rf l_3, .un, .da (dI v_j213), .da ((dL dI) v_taken9), .rf l_11] [(l_3, KK.cell (κ := Int) dI d4), (l_11, .ls (List.map (d3 dI dI dI) ((c224 ++ [((((1 : Int) + v_many1) + v_j213), (0 : Int), v_price)]) ++ [((0 : Int), (((1 : Int) + v_many1) + v_j213), ((0 : Int) - v_price))])))]
          cases h106
          exact wp_nextW (.cons .rfl (.cons .rfl (.cons .rfl (.cons .rfl (.cons .rfl (.cons .rfl (.cons .un (.cons .rfl (.cons .rfl (.cons .rfl Wks.nil)))))))))) rfl
        · have h106 := condF hc q240
          cases h106
          exact wp_nextW (.cons .rfl (.cons .rfl (.cons .rfl (.cons .rfl (.cons .rfl (.cons .rfl (.cons .un (.cons .rfl (.cons .rfl (.cons .rfl Wks.nil)))))))))) rfl
      · show Wp _ _ _ [.da ((dL (dU dI)) v_one), .da ((dL (dU dI)) v_other), .da (dI v_price), .da ((dL (dP dI dI)) v_pairs), .da (dI v_many1), .rf l_3, .un, .un, .da ((dL dI) v_taken9), .rf l_11] [(l_3, KK.cell (κ := Int) dI d4), (l_11, .ls (List.map (d3 dI dI dI) c241))]
        refine wp_frz (i := 9) (j := 1) (l := l_11) rfl rfl nk_l_11 ?_
        show Wp _ _ _ [.da ((dL (dU dI)) v_one), .da ((dL (dU dI)) v_other), .da (dI v_price), .da ((dL (dP dI dI)) v_pairs), .da (dI v_many1), .rf l_3, .un, .un, .da ((dL dI) v_taken9), .da ((dL (d3 dI dI dI)) c241)] [(l_3, KK.cell (κ := Int) dI d4)]
        have e0_ := Option.some.inj h0
        subst e0_
        exact wp_retS (ev_var (i := 9) rfl) hfin ⟨rfl, rfl⟩ (List.nil_sublist _)
end K92
set_option maxHeartbeats 2000000
namespace K92
open PySem PySem.Spec PyProof.Rows L2 Evl FC
theorem ok_m_numbers_within {P : Program} {w : World} {K : PySem.W.Frag} {mg : Str → Option Value} {base : Heap} {f : Addr} {fd : FuncData} (FF : Fun K "numbers_within" "numbers_within" sm_numbers_within f fd)  : FnOk P w K mg base CX0 1 f fd ["rows", "many"] (spOf K (pf_m_numbers_within)) := by
  refine ok_of (N := N_m_numbers_within) FF sc_m_numbers_within (fun as m R hG => ?_) (fun cdv A outer s H E hr => ?_)
  · obtain ⟨v_rows, v_many, r_, _, rfl, _⟩ := hG
    rfl
  · have nd : (N_m_numbers_within : List Str).Nodup := sc_m_numbers_within.nd
    refine ⟨_, (pss_cons (ps_set (i := 2) nd rfl (Or.inl rfl) (pe_op op_rep (pe_lst (pa_cons pe_int pa_nil)) (pv 1)))
      (pss_cons (ps_set (i := 3) nd rfl (Or.inl rfl) pe_bl)
      (pss_cons (ps_while PassesOwn.never (pt_val (pv 3))
      (pss_cons (ps_set (i := 3) nd rfl (Or.inl rfl) pe_bl)
      (pss_cons (ps_for PassesOwn.never rfl (kPi (r := fun K => iList K _) (K := K) (pi_list (pv 0)) rfl) (pg_tup rfl (pgs_cons (pg_name (i := 4) nd rfl (by first | exact Or.inl rfl | exact Or.inr rfl)) (pgs_cons (pg_name (i := 5) nd rfl (by first | exact Or.inl rfl | exact Or.inr rfl)) (pgs_cons (pg_name (i := 6) nd rfl (by first | exact Or.inl rfl | exact Or.inr rfl)) pgs_nil))))
      (Evl.pss_cut (ps_if (pt_cmpR op_gt (pe_ix (kIx (r := rIxL) (K := K) ix_list rfl) (pv 2) (pv 5) (fun _ _ => rfl)) (pe_op op_add (pe_ix (kIx (r := rIxL) (K := K) ix_list rfl) (pv 2) (pv 4) (fun _ _ => rfl)) (pv 6)) (nomark _)) (pss_cons (ps_asg (pe_op op_add (pe_ix (kIx (r := rIxL) (K := K) ix_list rfl) (pv 2) (pv 4) (fun _ _ => rfl)) (pv 6)) (pg_sub (pv 2) (pv 5) set_list))
      (pss_cons (ps_set (i := 3) nd rfl (Or.inl rfl) pe_bl)
      pss_nil)) pss_nil)
      pss_nil))
      pss_nil)))
      (pss_cons (ps_ret (pv 2)) pss_nil)))), ?_⟩
    rintro as m R ⟨v_rows, v_many, r_, h0, rfl, rfl, rfl⟩ F D rfl hk hfin hnx
    unfold m_numbers_within at h0
    show Wp _ _ _ [.da ((dL (d3 dI dI dI)) v_rows), .da (dI v_many), .un, .un, .un, .un, .un] []
    obtain ⟨t2, q3, h0⟩ := bindS h0
    refine wp_asgN (i := 2) (en_rep (f := dI) (show Ev _ _ _ _ (.da ((dL dI) ([(0 : Int)] : (List Int)))) _ from ev_lst (dl := [dI (0 : Int)]) (ea_cons (ev_int (i := 0)) ea_nil) (Nat.le_of_ble_eq_true rfl)) (ev_var (i := 1) rfl) q3) (fun l_1 nk_l_1 => ?_) rfl
    show Wp _ _ _ [.da ((dL (d3 dI dI dI)) v_rows), .da (dI v_many), .rf l_1, .un, .un, .un, .un] [(l_1, .ls (List.map dI t2))]
    refine wp_asg (i := 3) ev_bl ?_
    show Wp _ _ _ [.da ((dL (d3 dI dI dI)) v_rows), .da (dI v_many), .rf l_1, .da (dB true), .un, .un, .un] [(l_1, .ls (List.map dI t2))]
    obtain ⟨⟨v_changed82, c83⟩, q84, h0⟩ := bindS h0
    refine wp_whiL (fun (s_ : Bool × (List Int)) => [.da ((dL (d3 dI dI dI)) v_rows), .da (dI v_many), .rf l_1, .da (dB s_.1), .un, .un, .un]) (fun (s_ : Bool × (List Int)) => [(l_1, .ls (List.map dI s_.2))]) q84 (.cons .rfl (.cons .rfl (.cons .rfl (.cons .rfl (.cons .un (.cons .un (.cons .un Wks.nil))))))) rfl ?_ ?_ (fun _ => ?_)
    · rintro ⟨v_changed4, c5⟩ b_ h_
      have e_ := Option.some.inj h_
      subst e_
      exact (et_val (ev_var (i := 3) rfl))
    · rintro ⟨v_changed4, c5⟩ s_ hx1 h1 D1 he1 hn1 hct1
      show Wp _ _ _ [.da ((dL (d3 dI dI dI)) v_rows), .da (dI v_many), .rf l_1, .da (dB v_changed4), .un, .un, .un] [(l_1, .ls (List.map dI c5))]
      refine wp_asg (i := 3) ev_bl ?_
      show Wp _ _ _ [.da ((dL (d3 dI dI dI)) v_rows), .da (dI v_many), .rf l_1, .da (dB false), .un, .un, .un] [(l_1, .ls (List.map dI c5))]
      obtain ⟨⟨v_changed79, c80⟩, q81, h1⟩ := bindS h1
      refine wp_forF (fun (s_ : Bool × (List Int)) => [.da ((dL (d3 dI dI dI)) v_rows), .da (dI v_many), .rf l_1, .da (dB s_.1), .un, .un, .un]) (fun (s_ : Bool × (List Int)) => [(l_1, .ls (List.map dI s_.2))]) (src_L3 (f := dI) (f2 := dI) (f3 := dI) (i := 4) (j := 5) (k := 6) (ev_var (i := 0) rfl)) q81 (.cons .rfl (.cons .rfl (.cons .rfl (.cons .rfl (.cons .un (.cons .un (.cons .un Wks.nil))))))) rfl (fun _ => True.intro) ?_ ?_
      · rintro lo2 ⟨v_changed47, c48⟩ ⟨v_a44, v_b45, v_most46⟩ s_ hx2 h2 D2 he2 hn2 hct2
        show Wp _ _ _ [.da ((dL (d3 dI dI dI)) v_rows), .da (dI v_many), .rf l_1, .da (dB v_changed47), .da (dI v_a44), .da (dI v_b45), .da (dI v_most46)] [(l_1, .ls (List.map dI c48))]
        obtain ⟨t64, q65, h2⟩ := bindS h2
        obtain ⟨t66, q67, h2⟩ := bindS h2
        obtain ⟨⟨v_changed72, c73⟩, q78, h2⟩ := bindS h2
        refine wp_cutIf (ds' := [.da ((dL (d3 dI dI dI)) v_rows), .da (dI v_many), .rf l_1, .da (dB v_changed72), .da (dI v_a44), .da (dI v_b45), .da (dI v_most46)]) (m' := [(l_1, .ls (List.map dI c73))]) ?_ (et_test (ev_op (ev_op (ev_rf (i := 2) rfl) (ev_var (i := 5) rfl) (rr_ixC (f := dI) 0 rfl q65)) (ev_op (ev_op (ev_rf (i := 2) rfl) (ev_var (i := 4) rfl) (rr_ixC (f := dI) 0 rfl q67)) (ev_var (i := 6) rfl) rr_i) (rr_b (f := fun i j => decide (j < i))))) (fun hc => ?_) (fun hc => ?_)
        · cases h2
          exact wp_next fun σ H a => hn2 σ H (at_weak (.cons .rfl (.cons .rfl (.cons .rfl (.cons .rfl (.cons .un (.cons .un (.cons .un Wks.nil))))))) a)
        · have h104 := condT hc q78
          obtain ⟨t74, q75, h104⟩ := bindS h104
          obtain ⟨c76, q77, h104⟩ := bindS h104
          refine wp_setL (f := dI) 0 (ev_op (ev_op (ev_rf (i := 2) rfl) (ev_var (i := 4) rfl) (rr_ixC (f := dI) 0 rfl q75)) (ev_var (i := 6) rfl) rr_i) (ev_rf (i := 2) rfl) (ev_var (i := 5) rfl) rfl q77 ?_
          show Wp _ _ _ [.da ((dL (d3 dI dI dI)) v_rows), .da (dI v_many), .rf l_1, .da (dB v_changed47), .da (dI v_a44), .da (dI v_b45), .da (dI v_most46)] [(l_1, .ls (List.map dI c76))]
          refine wp_asg (i := 3) ev_bl ?_
          show Wp _ _ _ [.da ((dL (d3 dI dI dI)) v_rows), .da (dI v_many), .rf l_1, .da (dB true), .da (dI v_a44), .da (dI v_b45), .da (dI v_most46)] [(l_1, .ls (List.map dI c76))]
          cases h104
          exact wp_nextW (.cons .rfl (.cons .rfl (.cons .rfl (.cons .rfl (.cons .rfl (.cons .rfl (.cons .rfl Wks.nil))))))) rfl
        · have h104 := condF hc q78
          cases h104
          exact wp_nextW (.cons .rfl (.cons .rfl (.cons .rfl (.cons .rfl (.cons .rfl (.cons .rfl (.cons .rfl Wks.nil))))))) rfl
      · show Wp _ _ _ [.da ((dL (d3 dI dI dI)) v_rows), .da (dI v_many), .rf l_1, .da (dB v_changed79), .un, .un, .un] [(l_1, .ls (List.map dI c80))]
        cases h1
        exact wp_next fun σ H a => hn1 σ H (at_weak (.cons .rfl (.cons .rfl (.cons .rfl (.cons .rfl (.cons .un (.cons .un (.cons .un Wks.nil))))))) a)
    · show Wp _ _ _ [.da ((dL (d3 dI dI dI)) v_rows), .da (dI v_many), .rf l_1, .da (dB v_changed82), .un, .un, .un] [(l_1, .ls (List.map dI c83))]
      refine wp_frz (i := 2) (j := 0) (l := l_1) rfl rfl nk_l_1 ?_
      show Wp _ _ _ [.da ((dL (d3 dI dI dI)) v_rows), .da (dI v_many), .da ((dL dI) c83), .da (dB v_changed82), .un, .un, .un] []
      have e0_ := Option.some.inj h0
      subst e0_
      exact wp_retS (ev_var (i := 2) rfl) hfin ⟨rfl, rfl⟩ (List.nil_sublist _)
end K92
set_option maxHeartbeats 2000000
namespace K92
open PySem PySem.Spec PyProof.Rows L2 Evl FC
theorem ok_m_change_paper {P : Program} {w : World} {K : PySem.W.Frag} {mg : Str → Option Value} {base : Heap} {f : Addr} {fd : FuncData} (FF : Fun K "change_paper" "change_paper" sm_change_paper f fd) {f_m_bounds_between : Addr} {fd_m_bounds_between : FuncData} (G_m_bounds_between : FnOk P w K mg base CX0 2 f_m_bounds_between fd_m_bounds_between ["one", "other", "price", "pairs"] (spOf K (pf_m_bounds_between))) (g_m_bounds_between : mg "bounds_between" = some (.ref f_m_bounds_between)) (k_m_bounds_between : PySem.W.keepIn K (.ref f_m_bounds_between) = true) (b_m_bounds_between : Binds K fd_m_bounds_between ["one", "other", "price", "pairs"] []) {f_m_least_change : Addr} {fd_m_least_change : FuncData} (G_m_least_change : FnOk P w K mg base CX0 5 f_m_least_change fd_m_least_change ["one", "other", "price"] (spOf K (pf_m_least_change))) (g_m_least_change : mg "least_change" = some (.ref f_m_least_change)) (k_m_least_change : PySem.W.keepIn K (.ref f_m_least_change) = true) (b_m_least_change : Binds K fd_m_least_change ["one", "other", "price"] []) {f_m_numbers_within : Addr} {fd_m_numbers_within : FuncData} (G_m_numbers_within : FnOk P w K mg base CX0 1 f_m_numbers_within fd_m_numbers_within ["rows", "many"] (spOf K (pf_m_numbers_within))) (g_m_numbers_within : mg "numbers_within" = some (.ref f_m_numbers_within)) (k_m_numbers_within : PySem.W.keepIn K (.ref f_m_numbers_within) = true) (b_m_numbers_within : Binds K fd_m_numbers_within ["rows", "many"] []) (n_len : mg "len" = none) : FnOk P w K mg base CX0 6 f fd ["one", "other", "price"] (spOf K (pf_m_change_paper)) := by
  refine ok_of (N := N_m_change_paper) FF sc_m_change_paper (fun as m R hG => ?_) (fun cdv A outer s H E hr => ?_)
  · obtain ⟨v_one, v_other, v_price, r_, _, rfl, _⟩ := hG
    rfl
  · have nd : (N_m_change_paper : List Str).Nodup := sc_m_change_paper.nd
    refine ⟨_, (pss_cons (ps_set (i := 3) nd rfl (Or.inl rfl) (pe_ix (kIx (r := rIxT) (K := K) ix_tup rfl) (pe_call G_m_least_change (hr.mono (by decide)) (by rfl) g_m_least_change k_m_least_change b_m_least_change .nil pass0 (pa_cons (pv 0) (pa_cons (pv 1) (pa_cons (pv 2) pa_nil)))) pe_int (fun _ _ => rfl)))
      (pss_cons (ps_set (i := 4) nd rfl (Or.inl rfl) (pe_call G_m_numbers_within (hr.mono (by decide)) (by rfl) g_m_numbers_within k_m_numbers_within b_m_numbers_within .nil pass0 (pa_cons (pe_call G_m_bounds_between (hr.mono (by decide)) (by rfl) g_m_bounds_between k_m_bounds_between b_m_bounds_between .nil pass0 (pa_cons (pv 0) (pa_cons (pv 1) (pa_cons (pv 2) (pa_cons (pv 3) pa_nil))))) (pa_cons (pe_op op_add (pe_op op_add pe_int (pe_callB (kCa (r := rLenA) (K := K) call_len_seq rfl) (by rfl) n_len (by decide +kernel) (pa_cons (pv 0) pa_nil))) (pe_callB (kCa (r := rLenA) (K := K) call_len_seq rfl) (by rfl) n_len (by decide +kernel) (pa_cons (pv 1) pa_nil))) pa_nil))))
      (pss_cons (ps_set (i := 5) nd rfl (Or.inr rfl) (pe_ix (kIx (r := rIxL) (K := K) ix_list rfl) (pv 4) pe_int (fun _ _ => rfl)))
      (pss_cons (ps_setLc (i := 6) (own := [("number", 7)]) (g := gName 7) (tt := tYes) rfl nd rfl rfl (sw_true rfl rfl rfl (by decide +kernel)) (kPi (r := fun K => iList K _) (K := K) (pi_list (pe_slice (kSl (r := rSlL) (K := K) sl_list rfl) (pv 4) (po_some pe_int) (po_some (pe_op op_add pe_int (pe_callB (kCa (r := rLenA) (K := K) call_len_seq rfl) (by rfl) n_len (by decide +kernel) (pa_cons (pv 0) pa_nil)))))) rfl) (blkOk_by (own := [("number", 7)]) (N := N_m_change_paper) (sc := (defScope sm_change_paper)) (by decide +kernel)) (fun _ _ _ _ _ => (pg_name (i := 7) nd rfl (by first | exact Or.inl rfl | exact Or.inr rfl))) (fun _ _ _ _ _ => pts_nil) (fun _ _ _ _ _ => (pe_op op_sub (pv 7) (pv 5))))
      (pss_cons (ps_ret (pe_tup (pa_cons (pv 6) (pa_cons (pe_lc (own := [("number", 7)]) (g := gName 7) (tt := tYes) rfl nd (kPi (r := fun K => iList K _) (K := K) (pi_list (pe_slice (kSl (r := rSlL) (K := K) sl_list rfl) (pv 4) (po_some (pe_op op_add pe_int (pe_callB (kCa (r := rLenA) (K := K) call_len_seq rfl) (by rfl) n_len (by decide +kernel) (pa_cons (pv 0) pa_nil)))) po_none)) rfl) (blkOk_by (own := [("number", 7)]) (N := N_m_change_paper) (sc := (defScope sm_change_paper)) (by decide +kernel)) (fun _ _ _ _ _ => (pg_name (i := 7) nd rfl (by first | exact Or.inl rfl | exact Or.inr rfl))) (fun _ _ _ _ _ => pts_nil) (fun _ _ _ _ _ => (pe_op op_sub (pv 5) (pv 7)))) pa_nil)))) pss_nil))))), ?_⟩
    rintro as m R ⟨v_one, v_other, v_price, r_, h0, rfl, rfl, rfl⟩ F D rfl hk hfin hnx
    unfold m_change_paper at h0
    show Wp _ _ _ [.da ((dL (dU dI)) v_one), .da ((dL (dU dI)) v_other), .da (dI v_price), .un, .un, .un, .un, .un] []
    obtain ⟨t1, q2, h0⟩ := bindS h0
    obtain ⟨v_pairs3, q4, h0⟩ := bindS h0
    refine wp_asg (i := 3) (ev_eq (f := (dL (dP dI dI))) (ev_op (ev_call (ea_cons (ev_var (i := 0) rfl) (ea_cons (ev_var (i := 1) rfl) (ea_cons (ev_var (i := 2) rfl) ea_nil))) ⟨_, ⟨_, _, _, _, q2, rfl, rfl, rfl⟩, fun _ _ h => h⟩) (ev_int (i := 1)) (rr_ixT (dl := [dI (t1).1, (dL (dP dI dI)) (t1).2]) rfl)) (Option.some.inj q4)) ?_
    show Wp _ _ _ [.da ((dL (dU dI)) v_one), .da ((dL (dU dI)) v_other), .da (dI v_price), .da ((dL (dP dI dI)) v_pairs3), .un, .un, .un, .un] []
    obtain ⟨t5, q6, h0⟩ := bindS h0
    obtain ⟨t7, q8, h0⟩ := bindS h0
    refine wp_asg (i := 4) (ev_call (ea_cons (ev_call (ea_cons (ev_var (i := 0) rfl) (ea_cons (ev_var (i := 1) rfl) (ea_cons (ev_var (i := 2) rfl) (ea_cons (ev_var (i := 3) rfl) ea_nil)))) ⟨_, ⟨_, _, _, _, _, q6, rfl, rfl, rfl⟩, fun _ _ h => h⟩) (ea_cons (ev_op (ev_op (ev_int (i := 1)) (ev_cb (ea_cons (ev_var (i := 0) rfl) ea_nil) (rc_lenL (f := (dU dI)))) rr_i) (ev_cb (ea_cons (ev_var (i := 1) rfl) ea_nil) (rc_lenL (f := (dU dI)))) rr_i) ea_nil)) ⟨_, ⟨_, _, _, q8, rfl, rfl, rfl⟩, fun _ _ h => h⟩) ?_
    show Wp _ _ _ [.da ((dL (dU dI)) v_one), .da ((dL (dU dI)) v_other), .da (dI v_price), .da ((dL (dP dI dI)) v_pairs3), .da ((dL dI) t7), .un, .un, .un] []
    obtain ⟨t9, q10, h0⟩ := bindS h0
    refine wp_asg (i := 5) (ev_op (ev_var (i := 4) rfl) (ev_int (i := 0)) (rr_ixL (f := dI) q10)) ?_
    show Wp _ _ _ [.da ((dL (dU dI)) v_one), .da ((dL (dU dI)) v_other), .da (dI v_price), .da ((dL (dP dI dI)) v_pairs3), .da ((dL dI) t7), .da (dI t9), .un, .un] []
    obtain ⟨u12, q13, h0⟩ := bindS h0
    obtain ⟨v_own14, q15, h0⟩ := bindS h0
    refine wp_asg (i := 6) (ev_eq (f := (dL dI)) (lc_end (lc_map (f2 := dI) (step := fun x => some ((fun (v_number11 : Int) => (v_number11 - t9)) x)) (src_L (f := dI) (j := 7) (ev_sl (ev_var (i := 4) rfl) (eo_some (ev_int (i := 1))) (eo_some (ev_op (ev_int (i := 1)) (ev_cb (ea_cons (ev_var (i := 0) rfl) ea_nil) (rc_lenL (f := (dU dI)))) rr_i)) (rs_L (f := dI)))) (by decide) (fun _ => True.intro) q13 (mapO_pure _) (by rintro v_number11 y_ hx_ h_; cases h_; exact (ev_op (ev_var (i := 7) rfl) (ev_var (i := 5) rfl) rr_i)))) (Option.some.inj q15)) ?_
    show Wp _ _ _ [.da ((dL (dU dI)) v_one), .da ((dL (dU dI)) v_other), .da (dI v_price), .da ((dL (dP dI dI)) v_pairs3), .da ((dL dI) t7), .da (dI t9), .da ((dL dI) v_own14), .un] []
    obtain ⟨u17, q18, h0⟩ := bindS h0
    have e0_ := Option.some.inj h0
    subst e0_
    exact wp_retS (show Ev _ _ _ _ (.da ((dP (dL dI) (dL dI)) (v_own14, (List.map (fun (v_number16 : Int) => (t9 - v_number16)) (cutI t7 (some ((1 : Int) + (List.length v_one : Int))) none))))) _ from ev_tup (dl := [(dL dI) v_own14, (dL dI) (List.map (fun (v_number16 : Int) => (t9 - v_number16)) (cutI t7 (some ((1 : Int) + (List.length v_one : Int))) none))]) (ea_cons (ev_var (i := 6) rfl) (ea_cons (lc_end (lc_map (f2 := dI) (step := fun x => some ((fun (v_number16 : Int) => (t9 - v_number16)) x)) (src_L (f := dI) (j := 7) (ev_sl (ev_var (i := 4) rfl) (eo_some (ev_op (ev_int (i := 1)) (ev_cb (ea_cons (ev_var (i := 0) rfl) ea_nil) (rc_lenL (f := (dU dI)))) rr_i)) eo_none (rs_L (f := dI)))) (by decide) (fun _ => True.intro) q18 (mapO_pure _) (by rintro v_number16 y_ hx_ h_; cases h_; exact (ev_op (ev_var (i := 5) rfl) (ev_var (i := 7) rfl) rr_i)))) ea_nil)) (Nat.le_of_ble_eq_true rfl)) hfin ⟨rfl, rfl⟩ (List.nil_sublist _)
end K92
set_option maxHeartbeats 2000000
namespace K92
open PySem PySem.Spec PyProof.Rows L2 Evl FC
theorem ok_m_is_whole {P : Program} {w : World} {K : PySem.W.Frag} {mg : Str → Option Value} {base : Heap} {f : Addr} {fd : FuncData} (FF : Fun K "is_whole" "is_whole" sm_is_whole f fd) (n_bool : mg "bool" = none) (n_int : mg "int" = none) (n_isinstance : mg "isinstance" = none) : FnOk P w K mg base CX0 1 f fd ["thing"] (spOf K (pf_m_is_whole)) := by
  refine ok_of (N := N_m_is_whole) FF sc_m_is_whole (fun as m R hG => ?_) (fun cdv A outer s H E hr => ?_)
  · obtain ⟨v_thing, r_, _, rfl, _⟩ := hG
    rfl
  · have nd : (N_m_is_whole : List Str).Nodup := sc_m_is_whole.nd
    refine ⟨_, (pss_cons (ps_ret (pe_and (pe_callB (kCa (r := rIsi) (K := K) call_isi rfl) (by rfl) n_isinstance (by decide +kernel) (pa_cons (pv 0) (pa_cons (pe_bltn (v := .ty "int") (by rfl) n_int (by decide +kernel) rfl) pa_nil))) (pe_one (pe_not (pe_callB (kCa (r := rIsi) (K := K) call_isi rfl) (by rfl) n_isinstance (by decide +kernel) (pa_cons (pv 0) (pa_cons (pe_bltn (v := .ty "bool") (by rfl) n_bool (by decide +kernel) rfl) pa_nil))))))) pss_nil), ?_⟩
    rintro as m R ⟨v_thing, r_, h0, rfl, rfl, rfl⟩ F D rfl hk hfin hnx
    unfold m_is_whole at h0
    show Wp _ _ _ [.da (dI v_thing)] []
    have e0_ := Option.some.inj h0
    subst e0_
    exact wp_retS (ev_andP (ev_isi (T := "int") (b := true) (d := dI v_thing) (ev_var (i := 0) rfl) (show kitB "int" "int" = some true by decide +kernel)) (ev_notV (ev_isi (T := "bool") (b := false) (d := dI v_thing) (ev_var (i := 0) rfl) (show kitB "int" "bool" = some false by decide +kernel)))) hfin ⟨rfl, rfl⟩ (List.nil_sublist _)
end K92
set_option maxHeartbeats 2000000
namespace K92
open PySem PySem.Spec PyProof.Rows L2 Evl FC
theorem ok_m_is_pair_within {P : Program} {w : World} {K : PySem.W.Frag} {mg : Str → Option Value} {base : Heap} {f : Addr} {fd : FuncData} (FF : Fun K "is_pair_within" "is_pair_within" sm_is_pair_within f fd) {f_m_is_whole : Addr} {fd_m_is_whole : FuncData} (G_m_is_whole : FnOk P w K mg base CX0 1 f_m_is_whole fd_m_is_whole ["thing"] (spOf K (pf_m_is_whole))) (g_m_is_whole : mg "is_whole" = some (.ref f_m_is_whole)) (k_m_is_whole : PySem.W.keepIn K (.ref f_m_is_whole) = true) (b_m_is_whole : Binds K fd_m_is_whole ["thing"] []) (n_all : mg "all" = none) (n_isinstance : mg "isinstance" = none) (n_len : mg "len" = none) (n_tuple : mg "tuple" = none) : FnOk P w K mg base CX0 2 f fd ["thing", "many", "others"] (spOf K (pf_m_is_pair_within)) := by
  refine ok_of (N := N_m_is_pair_within) FF sc_m_is_pair_within (fun as m R hG => ?_) (fun cdv A outer s H E hr => ?_)
  · obtain ⟨v_thing, v_many, v_others, r_, _, rfl, _⟩ := hG
    rfl
  · have nd : (N_m_is_pair_within : List Str).Nodup := sc_m_is_pair_within.nd
    refine ⟨_, (pss_cons (ps_if (PW.pt (pw_or (pt_not (pt_val (pe_callB (kCa (r := rIsi) (K := K) call_isi rfl) (by rfl) n_isinstance (by decide +kernel) (pa_cons (pv 0) (pa_cons (pe_bltn (v := .ty "tuple") (by rfl) n_tuple (by decide +kernel) rfl) pa_nil))))) (pw_or (pt_cmpR op_ne (pe_callB (kCa (r := rLenA) (K := K) call_len_seq rfl) (by rfl) n_len (by decide +kernel) (pa_cons (pv 0) pa_nil)) pe_int (nomark _)) (pw_or1 (pt_not (pt_val (pe_callB (kCa (r := rAll) (K := K) (cr_all rfl) rfl) (by rfl) n_all (by decide +kernel) (pa_cons (pe_lc (own := [("number", 3)]) (g := gName 3) (tt := tYes) rfl nd (kPi (r := fun K => iTup K _) (K := K) (pi_tup (pv 0)) rfl) (blkOk_by (own := [("number", 3)]) (N := N_m_is_pair_within) (sc := (defScope sm_is_pair_within)) (by decide +kernel)) (fun _ _ _ _ _ => (pg_name (i := 3) nd rfl (by first | exact Or.inl rfl | exact Or.inr rfl))) (fun _ _ _ _ _ => pts_nil) (fun _ _ _ _ _ => (pe_call G_m_is_whole (hr.mono (by decide)) (by rfl) g_m_is_whole k_m_is_whole b_m_is_whole .nil pass0 (pa_cons (pv 3) pa_nil)))) pa_nil)))))))) (pss_cons (ps_ret pe_bl) pss_nil) pss_nil)
      (pss_cons (ps_ret (pe_and (pe_chain op_le op_lt pe_int (pe_ix (kIx (r := rIxT) (K := K) ix_tup rfl) (pv 0) pe_int (fun _ _ => rfl)) (pv 1)) (pe_one (pe_chain op_le op_lt pe_int (pe_ix (kIx (r := rIxT) (K := K) ix_tup rfl) (pv 0) pe_int (fun _ _ => rfl)) (pv 2))))) pss_nil)), ?_⟩
    rintro as m R ⟨v_thing, v_many, v_others, r_, h0, rfl, rfl, rfl⟩ F D rfl hk hfin hnx
    unfold m_is_pair_within at h0
    show Wp _ _ _ [.da ((dP dI dI) v_thing), .da (dI v_many), .da (dI v_others), .un] []
    obtain ⟨b10, q11, h0⟩ := bindS h0
    refine wp_if (et_or (k2 := b10) (m' := []) (et_not (et_val (ev_isi (T := "tuple") (b := true) (d := (dP dI dI) v_thing) (ev_var (i := 0) rfl) (show kitB "tuple" "tuple" = some true by decide +kernel)))) (fun e => by have h_ := condF e q11; obtain ⟨b8, q9, h_⟩ := bindS h_; have e_ := Option.some.inj h_; subst e_; exact (et_or (k2 := b8) (m' := []) (et_test (ev_op (ev_cb (ea_cons (show Ev _ _ _ _ (.da (dU dI ([(v_thing).1, (v_thing).2] : List Int))) _ from (ev_var (i := 0) rfl)) ea_nil) (rc_lenU (f := dI))) (ev_int (i := 2)) rr_neI)) (fun e => by have h_ := condF e q9; obtain ⟨u4, q5, h_⟩ := bindS h_; obtain ⟨o6, q7, h_⟩ := bindS h_; cases h_; exact (et_not (et_val (ev_cb (ea_cons (lc_end (lc_map (f2 := dB) (src_U (f := dI) (j := 3) (show Ev _ _ _ _ (.da (dU dI ([(v_thing).1, (v_thing).2] : List Int))) _ from (ev_var (i := 0) rfl))) (by decide) (fun _ => True.intro) q5 q7 (by rintro v_number1 y_ hx_ h_; obtain ⟨t2, q3, h_⟩ := bindS h_; cases h_; exact (ev_call (ea_cons (ev_var (i := 3) rfl) ea_nil) ⟨_, ⟨_, _, q3, rfl, rfl, rfl⟩, fun _ _ h => h⟩)))) ea_nil) rc_all)))) (fun e => by have h_ := condT e q9; cases h_; exact ⟨rfl, rfl⟩))) (fun e => by have h_ := condT e q11; cases h_; exact ⟨rfl, rfl⟩)) (fun hc => ?_) (fun hc => ?_)
    · have h0 := condT hc h0
      have e0_ := Option.some.inj h0
      subst e0_
      exact wp_retS ev_bl hfin ⟨rfl, rfl⟩ (List.nil_sublist _)
    · have h0 := condF hc h0
      refine wp_next ?_
      have e0_ := Option.some.inj h0
      subst e0_
      exact wp_retS (ev_andP (ev_chain (k2 := ((decide ((0 : Int) ≤ (v_thing).1)) && (decide ((v_thing).1 < v_many)))) (ev_int (i := 0)) (ev_op (ev_var (i := 0) rfl) (ev_int (i := 0)) (rr_ixT (dl := [dI (v_thing).1, dI (v_thing).2]) rfl)) (rr_b (f := fun i j => decide (i ≤ j))) (fun e => ⟨_, (ev_var (i := 1) rfl), by rw [e]; exact (rr_b (f := fun i j => decide (i < j)))⟩) (fun e => by rw [e]; exact ⟨rfl, rfl⟩)) (ev_chain (k2 := ((decide ((0 : Int) ≤ (v_thing).2)) && (decide ((v_thing).2 < v_others)))) (ev_int (i := 0)) (ev_op (ev_var (i := 0) rfl) (ev_int (i := 1)) (rr_ixT (dl := [dI (v_thing).1, dI (v_thing).2]) rfl)) (rr_b (f := fun i j => decide (i ≤ j))) (fun e => ⟨_, (ev_var (i := 2) rfl), by rw [e]; exact (rr_b (f := fun i j => decide (i < j)))⟩) (fun e => by rw [e]; exact ⟨rfl, rfl⟩))) hfin ⟨rfl, rfl⟩ (List.nil_sublist _)
end K92
set_option maxHeartbeats 2000000
namespace K92
open PySem PySem.Spec PyProof.Rows L2 Evl FC
theorem ok_m_are_pairs {P : Program} {w : World} {K : PySem.W.Frag} {mg : Str → Option Value} {base : Heap} {f : Addr} {fd : FuncData} (FF : Fun K "are_pairs" "are_pairs" sm_are_pairs f fd) {f_m_is_pair_within : Addr} {fd_m_is_pair_within : FuncData} (G_m_is_pair_within : FnOk P w K mg base CX0 2 f_m_is_pair_within fd_m_is_pair_within ["thing", "many", "others"] (spOf K (pf_m_is_pair_within))) (g_m_is_pair_within : mg "is_pair_within" = some (.ref f_m_is_pair_within)) (k_m_is_pair_within : PySem.W.keepIn K (.ref f_m_is_pair_within) = true) (b_m_is_pair_within : Binds K fd_m_is_pair_within ["thing", "many", "others"] []) (n_all : mg "all" = none) (n_isinstance : mg "isinstance" = none) (n_len : mg "len" = none) (n_list : mg "list" = none) (n_range : mg "range" = none) (n_set : mg "set" = none) : FnOk P w K mg base CX0 3 f fd ["thing", "many", "others"] (spOf K (pf_m_are_pairs)) := by
  refine ok_of (N := N_m_are_pairs) FF sc_m_are_pairs (fun as m R hG => ?_) (fun cdv A outer s H E hr => ?_)
  · obtain ⟨v_thing, v_many, v_others, r_, _, rfl, _⟩ := hG
    rfl
  · have nd : (N_m_are_pairs : List Str).Nodup := sc_m_are_pairs.nd
    refine ⟨_, (pss_cons (ps_if (PW.pt (pw_or (pt_not (pt_val (pe_callB (kCa (r := rIsi) (K := K) call_isi rfl) (by rfl) n_isinstance (by decide +kernel) (pa_cons (pv 0) (pa_cons (pe_bltn (v := .ty "list") (by rfl) n_list (by decide +kernel) rfl) pa_nil))))) (pw_or1 (pt_not (pt_val (pe_callB (kCa (r := rAll) (K := K) (cr_all rfl) rfl) (by rfl) n_all (by decide +kernel) (pa_cons (pe_lc (own := [("pair", 7)]) (g := gName 7) (tt := tYes) rfl nd (kPi (r := fun K => iList K _) (K := K) (pi_list (pv 0)) rfl) (blkOk_by (own := [("pair", 7)]) (N := N_m_are_pairs) (sc := (defScope sm_are_pairs)) (by decide +kernel)) (fun _ _ _ _ _ => (pg_name (i := 7) nd rfl (by first | exact Or.inl rfl | exact Or.inr rfl))) (fun _ _ _ _ _ => pts_nil) (fun _ _ _ _ _ => (pe_call G_m_is_pair_within (hr.mono (by decide)) (by rfl) g_m_is_pair_within k_m_is_pair_within b_m_is_pair_within .nil pass0 (pa_cons (pv 7) (pa_cons (pv 1) (pa_cons (pv 2) pa_nil)))))) pa_nil))))))) (pss_cons (ps_ret pe_bl) pss_nil) pss_nil)
      (pss_cons (ps_if (pt_not (pt_val (pe_callB (kCa (r := rAll) (K := K) (cr_all rfl) rfl) (by rfl) n_all (by decide +kernel) (pa_cons (pe_lc (own := [("k", 6)]) (g := gName 6) (tt := tYes) rfl nd (pi_range1 (by rfl) n_range (pa_cons (pe_op op_sub (pe_callB (kCa (r := rLenA) (K := K) call_len_seq rfl) (by rfl) n_len (by decide +kernel) (pa_cons (pv 0) pa_nil)) pe_int) pa_nil)) (blkOk_by (own := [("k", 6)]) (N := N_m_are_pairs) (sc := (defScope sm_are_pairs)) (by decide +kernel)) (fun _ _ _ _ _ => (pg_name (i := 6) nd rfl (by first | exact Or.inl rfl | exact Or.inr rfl))) (fun _ _ _ _ _ => pts_nil) (fun _ _ _ _ _ => (pe_cmpR op_lt (pe_ix (kIx (r := rIxT) (K := K) ix_tup rfl) (pe_ix (kIx (r := rIxL) (K := K) ix_list rfl) (pv 0) (pv 6) (fun _ _ => rfl)) pe_int (fun _ _ => rfl)) (pe_ix (kIx (r := rIxT) (K := K) ix_tup rfl) (pe_ix (kIx (r := rIxL) (K := K) ix_list rfl) (pv 0) (pe_op op_add (pv 6) pe_int) (fun _ _ => rfl)) pe_int (fun _ _ => rfl)) (nomark _)))) pa_nil)))) (pss_cons (ps_ret pe_bl) pss_nil) pss_nil)
      (pss_cons (ps_setLc (i := 3) (own := [("i", 4), ("j", 5)]) (g := gTup K 2 (gCons (gName 4) (gCons (gName 5) gNil))) (tt := tYes) rfl nd rfl rfl (sw_true rfl rfl rfl (by decide +kernel)) (kPi (r := fun K => iList K _) (K := K) (pi_list (pv 0)) rfl) (blkOk_by (own := [("i", 4), ("j", 5)]) (N := N_m_are_pairs) (sc := (defScope sm_are_pairs)) (by decide +kernel)) (fun _ _ _ _ _ => (pg_tup rfl (pgs_cons (pg_name (i := 4) nd rfl (by first | exact Or.inl rfl | exact Or.inr rfl)) (pgs_cons (pg_name (i := 5) nd rfl (by first | exact Or.inl rfl | exact Or.inr rfl)) pgs_nil)))) (fun _ _ _ _ _ => pts_nil) (fun _ _ _ _ _ => (pv 5)))
      (pss_cons (ps_ret (pe_cmpR op_eq (kPe (r := fun K => RZ.tLenSetI K _) (K := K) (RZ.pe_lenSetI (by rfl) n_len (by rfl) n_set (pv 3)) rfl) (pe_callB (kCa (r := rLenA) (K := K) call_len_seq rfl) (by rfl) n_len (by decide +kernel) (pa_cons (pv 3) pa_nil)) (nomark _))) pss_nil)))), ?_⟩
    rintro as m R ⟨v_thing, v_many, v_others, r_, h0, rfl, rfl, rfl⟩ F D rfl hk hfin hnx
    unfold m_are_pairs at h0
    show Wp _ _ _ [.da ((dL (dP dI dI)) v_thing), .da (dI v_many), .da (dI v_others), .un, .un, .un, .un, .un] []
    obtain ⟨b8, q9, h0⟩ := bindS h0
    refine wp_if (et_or (k2 := b8) (m' := []) (et_not (et_val (ev_isi (T := "list") (b := true) (d := (dL (dP dI dI)) v_thing) (ev_var (i := 0) rfl) (show kitB "list" "list" = some true by decide +kernel)))) (fun e => by have h_ := condF e q9; obtain ⟨u4, q5, h_⟩ := bindS h_; obtain ⟨o6, q7, h_⟩ := bindS h_; cases h_; exact (et_not (et_val (ev_cb (ea_cons (lc_end (lc_map (f2 := dB) (src_L (f := (dP dI dI)) (j := 7) (ev_var (i := 0) rfl)) (by decide) (fun _ => True.intro) q5 q7 (by rintro v_pair1 y_ hx_ h_; obtain ⟨t2, q3, h_⟩ := bindS h_; cases h_; exact (ev_call (ea_cons (ev_var (i := 7) rfl) (ea_cons (ev_var (i := 1) rfl) (ea_cons (ev_var (i := 2) rfl) ea_nil))) ⟨_, ⟨_, _, _, _, q3, rfl, rfl, rfl⟩, fun _ _ h => h⟩)))) ea_nil) rc_all)))) (fun e => by have h_ := condT e q9; cases h_; exact ⟨rfl, rfl⟩)) (fun hc => ?_) (fun hc => ?_)
    · have h0 := condT hc h0
      have e0_ := Option.some.inj h0
      subst e0_
      exact wp_retS ev_bl hfin ⟨rfl, rfl⟩ (List.nil_sublist _)
    · have h0 := condF hc h0
      refine wp_next ?_
      obtain ⟨rg10, q11, h0⟩ := bindS h0
      obtain ⟨u17, q18, h0⟩ := bindS h0
      obtain ⟨o19, q20, h0⟩ := bindS h0
      refine wp_if (et_not (et_val (ev_cb (ea_cons (lc_end (lc_map (f2 := dB) (src_R1 (j := 6) (ea_cons (ev_op (ev_cb (ea_cons (ev_var (i := 0) rfl) ea_nil) (rc_lenL (f := (dP dI dI)))) (ev_int (i := 1)) rr_i) ea_nil) q11) (by decide) (fun _ => True.intro) q18 q20 (by rintro v_k12 y_ hx_ h_; obtain ⟨t13, q14, h_⟩ := bindS h_; obtain ⟨t15, q16, h_⟩ := bindS h_; cases h_; exact (ev_op (ev_op (ev_op (ev_var (i := 0) rfl) (ev_var (i := 6) rfl) (rr_ixL (f := (dP dI dI)) q14)) (ev_int (i := 0)) (rr_ixT (dl := [dI (t13).1, dI (t13).2]) rfl)) (ev_op (ev_op (ev_var (i := 0) rfl) (ev_op (ev_var (i := 6) rfl) (ev_int (i := 1)) rr_i) (rr_ixL (f := (dP dI dI)) q16)) (ev_int (i := 0)) (rr_ixT (dl := [dI (t15).1, dI (t15).2]) rfl)) (rr_b (f := fun i j => decide (i < j))))))) ea_nil) rc_all))) (fun hc => ?_) (fun hc => ?_)
      · have h0 := condT hc h0
        have e0_ := Option.some.inj h0
        subst e0_
        exact wp_retS ev_bl hfin ⟨rfl, rfl⟩ (List.nil_sublist _)
      · have h0 := condF hc h0
        refine wp_next ?_
        obtain ⟨u22, q23, h0⟩ := bindS h0
        obtain ⟨v_taken24, q25, h0⟩ := bindS h0
        refine wp_asg (i := 3) (ev_eq (f := (dL dI)) (lc_end (lc_map (f2 := dI) (step := fun x => some ((fun (p_ : (Int × Int)) => (fun (v_i21 : Int) (v_j21 : Int) => v_j21) p_.1 p_.2) x)) (src_LP (f := dI) (f2 := dI) (j := 4) (k := 5) (ev_var (i := 0) rfl)) (by decide) (fun _ => True.intro) q23 (mapO_pure _) (by rintro ⟨v_i21, v_j21⟩ y_ hx_ h_; cases h_; exact (ev_var (i := 5) rfl)))) (Option.some.inj q25)) ?_
        show Wp _ _ _ [.da ((dL (dP dI dI)) v_thing), .da (dI v_many), .da (dI v_others), .da ((dL dI) v_taken24), .un, .un, .un, .un] []
        obtain ⟨t26, q27, h0⟩ := bindS h0
        have e0_ := Option.some.inj h0
        subst e0_
        exact wp_retS (ev_op (ev_lenSet (ev_var (i := 3) rfl) q27) (ev_cb (ea_cons (ev_var (i := 3) rfl) ea_nil) (rc_lenL (f := dI))) rr_eqI) hfin ⟨rfl, rfl⟩ (List.nil_sublist _)
end K92
set_option maxHeartbeats 2000000
namespace K92
open PySem PySem.Spec PyProof.Rows L2 Evl FC
theorem ok_m_are_prices {P : Program} {w : World} {K : PySem.W.Frag} {mg : Str → Option Value} {base : Heap} {f : Addr} {fd : FuncData} (FF : Fun K "are_prices" "are_prices" sm_are_prices f fd) {f_m_is_whole : Addr} {fd_m_is_whole : FuncData} (G_m_is_whole : FnOk P w K mg base CX0 1 f_m_is_whole fd_m_is_whole ["thing"] (spOf K (pf_m_is_whole))) (g_m_is_whole : mg "is_whole" = some (.ref f_m_is_whole)) (k_m_is_whole : PySem.W.keepIn K (.ref f_m_is_whole) = true) (b_m_is_whole : Binds K fd_m_is_whole ["thing"] []) (n_all : mg "all" = none) (n_isinstance : mg "isinstance" = none) (n_len : mg "len" = none) (n_list : mg "list" = none) : FnOk P w K mg base CX0 2 f fd ["thing", "many", "price"] (spOf K (pf_m_are_prices)) := by
  refine ok_of (N := N_m_are_prices) FF sc_m_are_prices (fun as m R hG => ?_) (fun cdv A outer s H E hr => ?_)
  · obtain ⟨v_thing, v_many, v_price, r_, _, rfl, _⟩ := hG
    rfl
  · have nd : (N_m_are_prices : List Str).Nodup := sc_m_are_prices.nd
    refine ⟨_, (pss_cons (ps_if (PW.pt (pw_or (pt_not (pt_val (pe_callB (kCa (r := rIsi) (K := K) call_isi rfl) (by rfl) n_isinstance (by decide +kernel) (pa_cons (pv 0) (pa_cons (pe_bltn (v := .ty "list") (by rfl) n_list (by decide +kernel) rfl) pa_nil))))) (pw_or1 (pt_cmpR op_ne (pe_callB (kCa (r := rLenA) (K := K) call_len_seq rfl) (by rfl) n_len (by decide +kernel) (pa_cons (pv 0) pa_nil)) (pv 1) (nomark _))))) (pss_cons (ps_ret pe_bl) pss_nil) pss_nil)
      (pss_cons (ps_ret (pe_callB (kCa (r := rAll) (K := K) (cr_all rfl) rfl) (by rfl) n_all (by decide +kernel) (pa_cons (pe_lc (own := [("number", 3)]) (g := gName 3) (tt := tYes) rfl nd (kPi (r := fun K => iList K _) (K := K) (pi_list (pv 0)) rfl) (blkOk_by (own := [("number", 3)]) (N := N_m_are_prices) (sc := (defScope sm_are_prices)) (by decide +kernel)) (fun _ _ _ _ _ => (pg_name (i := 3) nd rfl (by first | exact Or.inl rfl | exact Or.inr rfl))) (fun _ _ _ _ _ => pts_nil) (fun _ _ _ _ _ => (pe_and (pe_call G_m_is_whole (hr.mono (by decide)) (by rfl) g_m_is_whole k_m_is_whole b_m_is_whole .nil pass0 (pa_cons (pv 3) pa_nil)) (pe_one (pe_cmpR op_le (pv 3) (pv 2) (nomark _)))))) pa_nil))) pss_nil)), ?_⟩
    rintro as m R ⟨v_thing, v_many, v_price, r_, h0, rfl, rfl, rfl⟩ F D rfl hk hfin hnx
    unfold m_are_prices at h0
    show Wp _ _ _ [.da ((dL dI) v_thing), .da (dI v_many), .da (dI v_price), .un] []
    refine wp_if (et_orP (et_not (et_val (ev_isi (T := "list") (b := true) (d := (dL dI) v_thing) (ev_var (i := 0) rfl) (show kitB "list" "list" = some true by decide +kernel)))) (et_test (ev_op (ev_cb (ea_cons (ev_var (i := 0) rfl) ea_nil) (rc_lenL (f := dI))) (ev_var (i := 1) rfl) rr_neI))) (fun hc => ?_) (fun hc => ?_)
    · have h0 := condT hc h0
      have e0_ := Option.some.inj h0
      subst e0_
      exact wp_retS ev_bl hfin ⟨rfl, rfl⟩ (List.nil_sublist _)
    · have h0 := condF hc h0
      refine wp_next ?_
      obtain ⟨u4, q5, h0⟩ := bindS h0
      obtain ⟨o6, q7, h0⟩ := bindS h0
      have e0_ := Option.some.inj h0
      subst e0_
      exact wp_retS (ev_cb (ea_cons (lc_end (lc_map (f2 := dB) (src_L (f := dI) (j := 3) (ev_var (i := 0) rfl)) (by decide) (fun _ => True.intro) q5 q7 (by rintro v_number1 y_ hx_ h_; obtain ⟨t2, q3, h_⟩ := bindS h_; cases h_; exact (ev_andP (ev_call (ea_cons (ev_var (i := 3) rfl) ea_nil) ⟨_, ⟨_, _, q3, rfl, rfl, rfl⟩, fun _ _ h => h⟩) (ev_op (ev_var (i := 3) rfl) (ev_var (i := 2) rfl) (rr_b (f := fun i j => decide (i ≤ j)))))))) ea_nil) rc_all) hfin ⟨rfl, rfl⟩ (List.nil_sublist _)
end K92
set_option maxHeartbeats 2000000
namespace K92
open PySem PySem.Spec PyProof.Rows L2 Evl FC
theorem ok_m_shows_change {P : Program} {w : World} {K : PySem.W.Frag} {mg : Str → Option Value} {base : Heap} {f : Addr} {fd : FuncData} (FF : Fun K "shows_change" "shows_change" sm_shows_change f fd) {f_m_apart : Addr} {fd_m_apart : FuncData} (G_m_apart : FnOk P w K mg base CX0 1 f_m_apart fd_m_apart ["one", "other"] (spOf K (pf_m_apart))) (g_m_apart : mg "apart" = some (.ref f_m_apart)) (k_m_apart : PySem.W.keepIn K (.ref f_m_apart) = true) (b_m_apart : Binds K fd_m_apart ["one", "other"] []) {f_m_are_pairs : Addr} {fd_m_are_pairs : FuncData} (G_m_are_pairs : FnOk P w K mg base CX0 3 f_m_are_pairs fd_m_are_pairs ["thing", "many", "others"] (spOf K (pf_m_are_pairs))) (g_m_are_pairs : mg "are_pairs" = some (.ref f_m_are_pairs)) (k_m_are_pairs : PySem.W.keepIn K (.ref f_m_are_pairs) = true) (b_m_are_pairs : Binds K fd_m_are_pairs ["thing", "many", "others"] []) {f_m_are_prices : Addr} {fd_m_are_prices : FuncData} (G_m_are_prices : FnOk P w K mg base CX0 2 f_m_are_prices fd_m_are_prices ["thing", "many", "price"] (spOf K (pf_m_are_prices))) (g_m_are_prices : mg "are_prices" = some (.ref f_m_are_prices)) (k_m_are_prices : PySem.W.keepIn K (.ref f_m_are_prices) = true) (b_m_are_prices : Binds K fd_m_are_prices ["thing", "many", "price"] []) {f_m_cost_of : Addr} {fd_m_cost_of : FuncData} (G_m_cost_of : FnOk P w K mg base CX0 2 f_m_cost_of fd_m_cost_of ["one", "other", "price", "pairs"] (spOf K (pf_m_cost_of))) (g_m_cost_of : mg "cost_of" = some (.ref f_m_cost_of)) (k_m_cost_of : PySem.W.keepIn K (.ref f_m_cost_of) = true) (b_m_cost_of : Binds K fd_m_cost_of ["one", "other", "price", "pairs"] []) (n_all : mg "all" = none) (n_isinstance : mg "isinstance" = none) (n_len : mg "len" = none) (n_sum : mg "sum" = none) (n_tuple : mg "tuple" = none) (n_zip : mg "zip" = none) : FnOk P w K mg base CX0 4 f fd ["one", "other", "price", "pairs", "paper"] (spOf K (pf_m_shows_change)) := by
  refine ok_of (N := N_m_shows_change) FF sc_m_shows_change (fun as m R hG => ?_) (fun cdv A outer s H E hr => ?_)
  · obtain ⟨v_one, v_other, v_price, v_pairs, v_paper, r_, _, rfl, _⟩ := hG
    rfl
  · have nd : (N_m_shows_change : List Str).Nodup := sc_m_shows_change.nd
    refine ⟨_, (pss_cons (ps_if (pt_not (pt_val (pe_call G_m_are_pairs (hr.mono (by decide)) (by rfl) g_m_are_pairs k_m_are_pairs b_m_are_pairs .nil pass0 (pa_cons (pv 3) (pa_cons (pe_callB (kCa (r := rLenA) (K := K) call_len_seq rfl) (by rfl) n_len (by decide +kernel) (pa_cons (pv 0) pa_nil)) (pa_cons (pe_callB (kCa (r := rLenA) (K := K) call_len_seq rfl) (by rfl) n_len (by decide +kernel) (pa_cons (pv 1) pa_nil)) pa_nil)))))) (pss_cons (ps_ret pe_bl) pss_nil) pss_nil)
      (pss_cons (ps_if (PW.pt (pw_or (pt_not (pt_val (pe_callB (kCa (r := rIsi) (K := K) call_isi rfl) (by rfl) n_isinstance (by decide +kernel) (pa_cons (pv 4) (pa_cons (pe_bltn (v := .ty "tuple") (by rfl) n_tuple (by decide +kernel) rfl) pa_nil))))) (pw_or1 (pt_cmpR op_ne (pe_callB (kCa (r := rLenA) (K := K) call_len_seq rfl) (by rfl) n_len (by decide +kernel) (pa_cons (pv 4) pa_nil)) pe_int (nomark _))))) (pss_cons (ps_ret pe_bl) pss_nil) pss_nil)
      (pss_cons (ps_if (PW.pt (pw_or (pt_not (pt_val (pe_call G_m_are_prices (hr.mono (by decide)) (by rfl) g_m_are_prices k_m_are_prices b_m_are_prices .nil pass0 (pa_cons (pe_ix (kIx (r := rIxT) (K := K) ix_tup rfl) (pv 4) pe_int (fun _ _ => rfl)) (pa_cons (pe_callB (kCa (r := rLenA) (K := K) call_len_seq rfl) (by rfl) n_len (by decide +kernel) (pa_cons (pv 0) pa_nil)) (pa_cons (pv 2) pa_nil)))))) (pw_or1 (pt_not (pt_val (pe_call G_m_are_prices (hr.mono (by decide)) (by rfl) g_m_are_prices k_m_are_prices b_m_are_prices .nil pass0 (pa_cons (pe_ix (kIx (r := rIxT) (K := K) ix_tup rfl) (pv 4) pe_int (fun _ _ => rfl)) (pa_cons (pe_callB (kCa (r := rLenA) (K := K) call_len_seq rfl) (by rfl) n_len (by decide +kernel) (pa_cons (pv 1) pa_nil)) (pa_cons (pv 2) pa_nil))))))))) (pss_cons (ps_ret pe_bl) pss_nil) pss_nil)
      (pss_cons (ps_for PassesOwn.never rfl (kPi (r := fun K => RZ.iZipA K _) (K := K) (RZ.pi_zipA (by rfl) n_zip (pa_cons (pv 0) (pa_cons (pe_ix (kIx (r := rIxT) (K := K) ix_tup rfl) (pv 4) pe_int (fun _ _ => rfl)) pa_nil))) rfl) (pg_tup rfl (pgs_cons (pg_name (i := 5) nd rfl (by first | exact Or.inl rfl | exact Or.inr rfl)) (pgs_cons (pg_name (i := 6) nd rfl (by first | exact Or.inl rfl | exact Or.inr rfl)) pgs_nil)))
      (pss_cons (ps_if (pt_not (pt_val (pe_callB (kCa (r := rAll) (K := K) (cr_all rfl) rfl) (by rfl) n_all (by decide +kernel) (pa_cons (pe_lc (own := [("third", 7), ("more", 8)]) (g := gTup K 2 (gCons (gName 7) (gCons (gName 8) gNil))) (tt := tYes) rfl nd (kPi (r := fun K => RZ.iZipA K _) (K := K) (RZ.pi_zipA (by rfl) n_zip (pa_cons (pv 1) (pa_cons (pe_ix (kIx (r := rIxT) (K := K) ix_tup rfl) (pv 4) pe_int (fun _ _ => rfl)) pa_nil))) rfl) (blkOk_by (own := [("third", 7), ("more", 8)]) (N := N_m_shows_change) (sc := (defScope sm_shows_change)) (by decide +kernel)) (fun _ _ _ _ _ => (pg_tup rfl (pgs_cons (pg_name (i := 7) nd rfl (by first | exact Or.inl rfl | exact Or.inr rfl)) (pgs_cons (pg_name (i := 8) nd rfl (by first | exact Or.inl rfl | exact Or.inr rfl)) pgs_nil)))) (fun _ _ _ _ _ => pts_nil) (fun _ _ _ _ _ => (pe_cmpR op_le (pe_op op_add (pv 6) (pv 8)) (pe_call G_m_apart (hr.mono (by decide)) (by rfl) g_m_apart k_m_apart b_m_apart .nil pass0 (pa_cons (pv 5) (pa_cons (pv 7) pa_nil))) (nomark _)))) pa_nil)))) (pss_cons (ps_ret pe_bl) pss_nil) pss_nil)
      pss_nil))
      (pss_cons (ps_ret (pe_cmpR op_eq (pe_op op_add (pe_callB (kCa (r := rSum) (K := K) (cr_sum rfl) rfl) (by rfl) n_sum (by decide +kernel) (pa_cons (pe_ix (kIx (r := rIxT) (K := K) ix_tup rfl) (pv 4) pe_int (fun _ _ => rfl)) pa_nil)) (pe_callB (kCa (r := rSum) (K := K) (cr_sum rfl) rfl) (by rfl) n_sum (by decide +kernel) (pa_cons (pe_ix (kIx (r := rIxT) (K := K) ix_tup rfl) (pv 4) pe_int (fun _ _ => rfl)) pa_nil))) (pe_call G_m_cost_of (hr.mono (by decide)) (by rfl) g_m_cost_of k_m_cost_of b_m_cost_of .nil pass0 (pa_cons (pv 0) (pa_cons (pv 1) (pa_cons (pv 2) (pa_cons (pv 3) pa_nil))))) (nomark _))) pss_nil))))), ?_⟩
    rintro as m R ⟨v_one, v_other, v_price, v_pairs, v_paper, r_, h0, rfl, rfl, rfl⟩ F D rfl hk hfin hnx
    unfold m_shows_change at h0
    show Wp _ _ _ [.da ((dL (dU dI)) v_one), .da ((dL (dU dI)) v_other), .da (dI v_price), .da ((dL (dP dI dI)) v_pairs), .da ((dP (dL dI) (dL dI)) v_paper), .un, .un, .un, .un] []
    obtain ⟨t1, q2, h0⟩ := bindS h0
    refine wp_if (et_not (et_val (ev_call (ea_cons (ev_var (i := 3) rfl) (ea_cons (ev_cb (ea_cons (ev_var (i := 0) rfl) ea_nil) (rc_lenL (f := (dU dI)))) (ea_cons (ev_cb (ea_cons (ev_var (i := 1) rfl) ea_nil) (rc_lenL (f := (dU dI)))) ea_nil))) ⟨_, ⟨_, _, _, _, q2, rfl, rfl, rfl⟩, fun _ _ h => h⟩))) (fun hc => ?_) (fun hc => ?_)
    · have h0 := condT hc h0
      have e0_ := Option.some.inj h0
      subst e0_
      exact wp_retS ev_bl hfin ⟨rfl, rfl⟩ (List.nil_sublist _)
    · have h0 := condF hc h0
      refine wp_next ?_
      refine wp_if (et_orP (et_not (et_val (ev_isi (T := "tuple") (b := true) (d := (dP (dL dI) (dL dI)) v_paper) (ev_var (i := 4) rfl) (show kitB "tuple" "tuple" = some true by decide +kernel)))) (et_test (ev_op (ev_cb (ea_cons (show Ev _ _ _ _ (.da (dU (dL dI) ([(v_paper).1, (v_paper).2] : List (List Int)))) _ from (ev_var (i := 4) rfl)) ea_nil) (rc_lenU (f := (dL dI)))) (ev_int (i := 2)) rr_neI))) (fun hc => ?_) (fun hc => ?_)
      · have h0 := condT hc h0
        have e0_ := Option.some.inj h0
        subst e0_
        exact wp_retS ev_bl hfin ⟨rfl, rfl⟩ (List.nil_sublist _)
      · have h0 := condF hc h0
        refine wp_next ?_
        obtain ⟨t3, q4, h0⟩ := bindS h0
        obtain ⟨b7, q8, h0⟩ := bindS h0
        refine wp_if (et_or (k2 := b7) (m' := []) (et_not (et_val (ev_call (ea_cons (ev_op (ev_var (i := 4) rfl) (ev_int (i := 0)) (rr_ixT (dl := [(dL dI) (v_paper).1, (dL dI) (v_paper).2]) rfl)) (ea_cons (ev_cb (ea_cons (ev_var (i := 0) rfl) ea_nil) (rc_lenL (f := (dU dI)))) (ea_cons (ev_var (i := 2) rfl) ea_nil))) ⟨_, ⟨_, _, _, _, q4, rfl, rfl, rfl⟩, fun _ _ h => h⟩))) (fun e => by have h_ := condF e q8; obtain ⟨t5, q6, h_⟩ := bindS h_; cases h_; exact (et_not (et_val (ev_call (ea_cons (ev_op (ev_var (i := 4) rfl) (ev_int (i := 1)) (rr_ixT (dl := [(dL dI) (v_paper).1, (dL dI) (v_paper).2]) rfl)) (ea_cons (ev_cb (ea_cons (ev_var (i := 1) rfl) ea_nil) (rc_lenL (f := (dU dI)))) (ea_cons (ev_var (i := 2) rfl) ea_nil))) ⟨_, ⟨_, _, _, _, q6, rfl, rfl, rfl⟩, fun _ _ h => h⟩)))) (fun e => by have h_ := condT e q8; cases h_; exact ⟨rfl, rfl⟩)) (fun hc => ?_) (fun hc => ?_)
        · have h0 := condT hc h0
          have e0_ := Option.some.inj h0
          subst e0_
          exact wp_retS ev_bl hfin ⟨rfl, rfl⟩ (List.nil_sublist _)
        · have h0 := condF hc h0
          refine wp_next ?_
          obtain ⟨k29, q28, h0⟩ := bindS h0
          refine wp_forC (fun (s_ : Unit) => [.da ((dL (dU dI)) v_one), .da ((dL (dU dI)) v_other), .da (dI v_price), .da ((dL (dP dI dI)) v_pairs), .da ((dP (dL dI) (dL dI)) v_paper), .un, .un, .un, .un]) (fun (s_ : Unit) => []) (src_ZL (f := (dU dI)) (f2 := dI) (j := 5) (k := 6) (ea_cons (ev_var (i := 0) rfl) (ea_cons (ev_op (ev_var (i := 4) rfl) (ev_int (i := 0)) (rr_ixT (dl := [(dL dI) (v_paper).1, (dL dI) (v_paper).2]) rfl)) ea_nil))) q28 (.cons .rfl (.cons .rfl (.cons .rfl (.cons .rfl (.cons .rfl (.cons .un (.cons .un (.cons .un (.cons .un Wks.nil))))))))) rfl (fun _ => True.intro) ?_ ?_
          · rintro lo1 ⟨⟩ ⟨v_colour9, v_own10⟩ c_ hx1 h1 D1 he1 hn1 hct1 hbk1 hret1
            show Wp _ _ _ [.da ((dL (dU dI)) v_one), .da ((dL (dU dI)) v_other), .da (dI v_price), .da ((dL (dP dI dI)) v_pairs), .da ((dP (dL dI) (dL dI)) v_paper), .da ((dU dI) v_colour9), .da (dI v_own10), .un, .un] []
            obtain ⟨u21, q22, h1⟩ := bindS h1
            obtain ⟨o23, q24, h1⟩ := bindS h1
            refine wp_if (et_not (et_val (ev_cb (ea_cons (lc_end (lc_map (f2 := dB) (src_ZL (f := (dU dI)) (f2 := dI) (j := 7) (k := 8) (ea_cons (ev_var (i := 1) rfl) (ea_cons (ev_op (ev_var (i := 4) rfl) (ev_int (i := 1)) (rr_ixT (dl := [(dL dI) (v_paper).1, (dL dI) (v_paper).2]) rfl)) ea_nil))) (by decide) (fun _ => True.intro) q22 q24 (by rintro ⟨v_third18, v_more18⟩ y_ hx_ h_; obtain ⟨t19, q20, h_⟩ := bindS h_; cases h_; exact (ev_op (ev_op (ev_var (i := 6) rfl) (ev_var (i := 8) rfl) rr_i) (ev_call (ea_cons (ev_var (i := 5) rfl) (ea_cons (ev_var (i := 7) rfl) ea_nil)) ⟨_, ⟨_, _, _, q20, rfl, rfl, rfl⟩, fun _ _ h => h⟩) (rr_b (f := fun i j => decide (i ≤ j))))))) ea_nil) rc_all))) (fun hc => ?_) (fun hc => ?_)
            · have h1 := condT hc h1
              cases h1
              have g1 := ctlK_rt (hret1 _ rfl) h0
              have e0_ := Option.some.inj g1
              subst e0_
              exact wp_retS ev_bl (fin_at hfin he1) ⟨rfl, rfl⟩ (List.nil_sublist _)
            · have h1 := condF hc h1
              refine wp_next ?_
              cases h1
              exact wp_next fun σ H a => (hn1 _ rfl) σ H (at_weak (.cons .rfl (.cons .rfl (.cons .rfl (.cons .rfl (.cons .rfl (.cons .un (.cons .un (.cons .un (.cons .un Wks.nil))))))))) a)
          · rintro ⟨⟩ hk_
            have h0 := ctlK_go hk_ h0
            show Wp _ _ _ [.da ((dL (dU dI)) v_one), .da ((dL (dU dI)) v_other), .da (dI v_price), .da ((dL (dP dI dI)) v_pairs), .da ((dP (dL dI) (dL dI)) v_paper), .un, .un, .un, .un] []
            obtain ⟨t25, q26, h0⟩ := bindS h0
            have e0_ := Option.some.inj h0
            subst e0_
            exact wp_retS (ev_op (ev_op (ev_cb (ea_cons (ev_op (ev_var (i := 4) rfl) (ev_int (i := 0)) (rr_ixT (dl := [(dL dI) (v_paper).1, (dL dI) (v_paper).2]) rfl)) ea_nil) rc_sum) (ev_cb (ea_cons (ev_op (ev_var (i := 4) rfl) (ev_int (i := 1)) (rr_ixT (dl := [(dL dI) (v_paper).1, (dL dI) (v_paper).2]) rfl)) ea_nil) rc_sum) rr_i) (ev_call (ea_cons (ev_var (i := 0) rfl) (ea_cons (ev_var (i := 1) rfl) (ea_cons (ev_var (i := 2) rfl) (ea_cons (ev_var (i := 3) rfl) ea_nil)))) ⟨_, ⟨_, _, _, _, _, q26, rfl, rfl, rfl⟩, fun _ _ h => h⟩) rr_eqI) hfin ⟨rfl, rfl⟩ (List.nil_sublist _)
end K92
set_option maxHeartbeats 2000000
namespace K92
open PySem PySem.Spec PyProof.Rows L2 Evl FC
theorem ok_m_law_mix {P : Program} {w : World} {K : PySem.W.Frag} {mg : Str → Option Value} {base : Heap} {f : Addr} {fd : FuncData} (FF : Fun K "_law_mix" "_law_mix" sm_law_mix f fd)  : FnOk P w K mg base CX0 1 f fd ["cell", "k"] (spOf K (pf_m_law_mix)) := by
  refine ok_of (N := N_m_law_mix) FF sc_m_law_mix (fun as m R hG => ?_) (fun cdv A outer s H E hr => ?_)
  · obtain ⟨v_cell, v_k, r_, _, rfl, _⟩ := hG
    rfl
  · have nd : (N_m_law_mix : List Str).Nodup := sc_m_law_mix.nd
    refine ⟨_, (pss_cons (ps_set (i := 2) nd rfl (Or.inl rfl) (pe_op op_mod (pe_op op_mulA (pe_op op_add (pe_op op_add (pe_op op_mod (pv 0) pe_int) (pe_op op_mulA (pe_op op_mulA (pv 1) (pv 1)) pe_int)) pe_int) pe_int) pe_int))
      (pss_cons (ps_ret (pe_op op_mod (pe_op op_mulA (pv 2) (pv 2)) pe_int)) pss_nil)), ?_⟩
    rintro as m R ⟨v_cell, v_k, r_, h0, rfl, rfl, rfl⟩ F D rfl hk hfin hnx
    unfold m_law_mix at h0
    show Wp _ _ _ [.da (dI v_cell), .da (dI v_k), .un] []
    obtain ⟨t1, q2, h0⟩ := bindS h0
    obtain ⟨t3, q4, h0⟩ := bindS h0
    obtain ⟨t5, q6, h0⟩ := bindS h0
    obtain ⟨t7, q8, h0⟩ := bindS h0
    obtain ⟨t9, q10, h0⟩ := bindS h0
    refine wp_asg (i := 2) (ev_op (ev_op (ev_op (ev_op (ev_op (ev_var (i := 0) rfl) (ev_int (i := 2147483629)) (rr_mod q2)) (ev_op (ev_op (ev_var (i := 1) rfl) (ev_var (i := 1) rfl) (rr_mul q4)) (ev_int (i := 7919)) (rr_mul q6)) rr_i) (ev_int (i := 11)) rr_i) (ev_int (i := 48271)) (rr_mul q8)) (ev_int (i := 2147483647)) (rr_mod q10)) ?_
    show Wp _ _ _ [.da (dI v_cell), .da (dI v_k), .da (dI t9)] []
    obtain ⟨t11, q12, h0⟩ := bindS h0
    obtain ⟨t13, q14, h0⟩ := bindS h0
    have e0_ := Option.some.inj h0
    subst e0_
    exact wp_retS (ev_op (ev_op (ev_var (i := 2) rfl) (ev_var (i := 2) rfl) (rr_mul q12)) (ev_int (i := 1999999973)) (rr_mod q14)) hfin ⟨rfl, rfl⟩ (List.nil_sublist _)
end K92
set_option maxHeartbeats 2000000
namespace K92
open PySem PySem.Spec PyProof.Rows L2 Evl FC
theorem ok_m_law_left {P : Program} {w : World} {K : PySem.W.Frag} {mg : Str → Option Value} {base : Heap} {f : Addr} {fd : FuncData} (FF : Fun K "_law_left" "_law_left" sm_law_left f fd) (n_abs : mg "abs" = none) (n_int : mg "int" = none) (n_len : mg "len" = none) : FnOk P w K mg base CX0 1 f fd ["script", "k"] (spOf K (pf_m_law_left)) := by
  refine ok_of (N := N_m_law_left) FF sc_m_law_left (fun as m R hG => ?_) (fun cdv A outer s H E hr => ?_)
  · obtain ⟨l_script, v_script, v_k, r_, _, rfl, _⟩ := hG
    rfl
  · have nd : (N_m_law_left : List Str).Nodup := sc_m_law_left.nd
    refine ⟨_, (pss_cons (ps_set (i := 2) nd rfl (Or.inl rfl) (pe_ifExp (pt_cmpR op_lt (pv 1) (pe_callB (kCa (r := rLenA) (K := K) call_len_seq rfl) (by rfl) n_len (by decide +kernel) (pa_cons (pv 0) pa_nil)) (nomark _)) (pe_ix (kIx (r := rIxL) (K := K) ix_list rfl) (pv 0) (pv 1) (fun _ _ => rfl)) pe_int))
      (pss_cons (ps_ret (pe_lst (pa_cons (pe_op op_mulA (pe_callB call_abs (by rfl) n_abs (by decide +kernel) (pa_cons (pv 2) pa_nil)) (pe_callTy call_int1 (by rfl) n_int (by decide +kernel) (pa_cons (pe_cmpR op_ge (pe_callB call_abs (by rfl) n_abs (by decide +kernel) (pa_cons (pv 2) pa_nil)) (pe_op op_pow pe_int pe_int) (nomark _)) pa_nil))) (pa_cons (pe_op op_add (pv 2) (pe_op op_mulA pe_int (pv 1))) (pa_cons pe_int pa_nil))))) pss_nil)), ?_⟩
    rintro as m R ⟨l_script, v_script, v_k, r_, h0, rfl, rfl, rfl⟩ F D rfl hk hfin hnx
    unfold m_law_left at h0
    show Wp _ _ _ [.sl l_script v_script, .da (dI v_k), .un] []
    obtain ⟨t3, q4, h0⟩ := bindS h0
    refine wp_asg (i := 2) (ev_if (r := .da (dI t3)) (m' := []) (et_test (ev_op (ev_var (i := 1) rfl) (ev_cb (ea_cons (ev_sc (i := 0) rfl) ea_nil) rc_lenSc) (rr_b (f := fun i j => decide (i < j))))) (fun e => by have h_ := condT e q4; obtain ⟨t1, q2, h_⟩ := bindS h_; cases h_; exact (ev_op (ev_sc (i := 0) rfl) (ev_var (i := 1) rfl) (rr_ixSc q2))) (fun e => by have h_ := condF e q4; cases h_; exact (ev_int (i := 0)))) ?_
    show Wp _ _ _ [.sl l_script v_script, .da (dI v_k), .da (dI t3)] []
    obtain ⟨t5, q6, h0⟩ := bindS h0
    obtain ⟨t7, q8, h0⟩ := bindS h0
    have e0_ := Option.some.inj h0
    subst e0_
    exact wp_retNew (mo := []) (show EvN _ _ _ _ (.ls (List.map dI ([t5, (t3 + t7), (0 : Int)] : (List Int)))) _ from en_lst (dl := [dI t5, dI (t3 + t7), dI (0 : Int)]) (ea_cons (ev_op (ev_cb (ea_cons (ev_var (i := 2) rfl) ea_nil) rc_abs) (ev_cb (ea_cons (ev_op (ev_cb (ea_cons (ev_var (i := 2) rfl) ea_nil) rc_abs) (ev_op (ev_int (i := 10)) (ev_int (i := 18)) (rr_pow (k := 1000000000000000000) (by decide) (by decide))) (rr_b (f := fun i j => decide (j ≤ i)))) ea_nil) rc_intB) (rr_mul q6)) (ea_cons (ev_op (ev_var (i := 2) rfl) (ev_op (ev_int (i := 1000003)) (ev_var (i := 1) rfl) (rr_mul q8)) rr_i) (ea_cons (ev_int (i := 0)) ea_nil))) (Nat.le_of_ble_eq_true rfl)) hfin (fun p => ⟨p, rfl, rfl⟩) (List.nil_sublist _)
end K92
set_option maxHeartbeats 2000000
namespace K92
open PySem PySem.Spec PyProof.Rows L2 Evl FC
theorem ok_m_law_pick {P : Program} {w : World} {K : PySem.W.Frag} {mg : Str → Option Value} {base : Heap} {f : Addr} {fd : FuncData} (FF : Fun K "_law_pick" "_law_pick" sm_law_pick f fd) {f_m_law_mix : Addr} {fd_m_law_mix : FuncData} (G_m_law_mix : FnOk P w K mg base CX0 1 f_m_law_mix fd_m_law_mix ["cell", "k"] (spOf K (pf_m_law_mix))) (g_m_law_mix : mg "_law_mix" = some (.ref f_m_law_mix)) (k_m_law_mix : PySem.W.keepIn K (.ref f_m_law_mix) = true) (b_m_law_mix : Binds K fd_m_law_mix ["cell", "k"] []) : FnOk P w K mg base CX0 2 f fd ["left", "many"] (spOf K (pf_m_law_pick)) := by
  refine ok_of (N := N_m_law_pick) FF sc_m_law_pick (fun as m R hG => ?_) (fun cdv A outer s H E hr => ?_)
  · obtain ⟨l_left, v_left, v_many, r_, w_left, _, rfl, _⟩ := hG
    rfl
  · have nd : (N_m_law_pick : List Str).Nodup := sc_m_law_pick.nd
    refine ⟨_, (pss_cons (ps_asg (pe_op op_add (pe_ix (kIx (r := rIxL) (K := K) ix_list rfl) (pv 0) pe_int (fun _ _ => rfl)) pe_int) (pg_sub (pv 0) pe_int set_list))
      (pss_cons (ps_if (pt_cmpR op_gt (pe_ix (kIx (r := rIxL) (K := K) ix_list rfl) (pv 0) pe_int (fun _ _ => rfl)) pe_int (nomark _)) (pss_cons (ps_set (i := 2) nd rfl (Or.inl rfl) (pe_op op_mod (pe_ix (kIx (r := rIxL) (K := K) ix_list rfl) (pv 0) pe_int (fun _ _ => rfl)) (pv 1)))
      (pss_cons (ps_asg (pe_op op_divA (pe_ix (kIx (r := rIxL) (K := K) ix_list rfl) (pv 0) pe_int (fun _ _ => rfl)) (pv 1)) (pg_sub (pv 0) pe_int set_list))
      (pss_cons (ps_ret (pv 2)) pss_nil))) pss_nil)
      (pss_cons (ps_ret (pe_op op_mod (pe_op op_divA (pe_call G_m_law_mix (hr.mono (by decide)) (by rfl) g_m_law_mix k_m_law_mix b_m_law_mix .nil pass0 (pa_cons (pe_call G_m_law_mix (hr.mono (by decide)) (by rfl) g_m_law_mix k_m_law_mix b_m_law_mix .nil pass0 (pa_cons (pe_ix (kIx (r := rIxL) (K := K) ix_list rfl) (pv 0) pe_int (fun _ _ => rfl)) (pa_cons (pe_ix (kIx (r := rIxL) (K := K) ix_list rfl) (pv 0) pe_int (fun _ _ => rfl)) pa_nil))) (pa_cons (pe_op op_add (pe_ix (kIx (r := rIxL) (K := K) ix_list rfl) (pv 0) pe_int (fun _ _ => rfl)) pe_int) pa_nil))) pe_int) (pv 1))) pss_nil))), ?_⟩
    rintro as m R ⟨l_left, v_left, v_many, r_, w_left, h0, rfl, rfl, rfl⟩ F D rfl hk hfin hnx
    unfold m_law_pick at h0
    show Wp _ _ _ [.rf l_left, .da (dI v_many), .un] [(l_left, .ls (List.map dI v_left))]
    obtain ⟨t1, q2, h0⟩ := bindS h0
    obtain ⟨c3, q4, h0⟩ := bindS h0
    refine wp_setL (f := dI) 0 (ev_op (ev_op (ev_rf (i := 0) rfl) (ev_int (i := 2)) (rr_ixC (f := dI) 0 rfl q2)) (ev_int (i := 1)) rr_i) (ev_rf (i := 0) rfl) (ev_int (i := 2)) rfl q4 ?_
    show Wp _ _ _ [.rf l_left, .da (dI v_many), .un] [(l_left, .ls (List.map dI c3))]
    obtain ⟨t5, q6, h0⟩ := bindS h0
    refine wp_if (et_test (ev_op (ev_op (ev_rf (i := 0) rfl) (ev_int (i := 0)) (rr_ixC (f := dI) 0 rfl q6)) (ev_int (i := 0)) (rr_b (f := fun i j => decide (j < i))))) (fun hc => ?_) (fun hc => ?_)
    · have h0 := condT hc h0
      obtain ⟨t7, q8, h0⟩ := bindS h0
      obtain ⟨t9, q10, h0⟩ := bindS h0
      refine wp_asg (i := 2) (ev_op (ev_op (ev_rf (i := 0) rfl) (ev_int (i := 0)) (rr_ixC (f := dI) 0 rfl q8)) (ev_var (i := 1) rfl) (rr_mod q10)) ?_
      show Wp _ _ _ [.rf l_left, .da (dI v_many), .da (dI t9)] [(l_left, .ls (List.map dI c3))]
      obtain ⟨t11, q12, h0⟩ := bindS h0
      obtain ⟨t13, q14, h0⟩ := bindS h0
      obtain ⟨c15, q16, h0⟩ := bindS h0
      refine wp_setL (f := dI) 0 (ev_op (ev_op (ev_rf (i := 0) rfl) (ev_int (i := 0)) (rr_ixC (f := dI) 0 rfl q12)) (ev_var (i := 1) rfl) (rr_div q14)) (ev_rf (i := 0) rfl) (ev_int (i := 0)) rfl q16 ?_
      show Wp _ _ _ [.rf l_left, .da (dI v_many), .da (dI t9)] [(l_left, .ls (List.map dI c15))]
      have z0_ := Option.some.inj h0
      obtain ⟨e0_, e1_⟩ := Prod.mk.inj z0_
      subst e0_
      subst e1_
      exact wp_retS (ev_var (i := 2) rfl) hfin ⟨rfl, rfl⟩ (List.Sublist.cons₂ _ (List.nil_sublist _))
    · have h0 := condF hc h0
      refine wp_next ?_
      obtain ⟨t17, q18, h0⟩ := bindS h0
      obtain ⟨t19, q20, h0⟩ := bindS h0
      obtain ⟨t21, q22, h0⟩ := bindS h0
      obtain ⟨t23, q24, h0⟩ := bindS h0
      obtain ⟨t25, q26, h0⟩ := bindS h0
      obtain ⟨t27, q28, h0⟩ := bindS h0
      obtain ⟨t29, q30, h0⟩ := bindS h0
      have z0_ := Option.some.inj h0
      obtain ⟨e0_, e1_⟩ := Prod.mk.inj z0_
      subst e0_
      subst e1_
      exact wp_retS (ev_op (ev_op (ev_call (ea_cons (ev_call (ea_cons (ev_op (ev_rf (i := 0) rfl) (ev_int (i := 1)) (rr_ixC (f := dI) 0 rfl q18)) (ea_cons (ev_op (ev_rf (i := 0) rfl) (ev_int (i := 2)) (rr_ixC (f := dI) 0 rfl q20)) ea_nil)) ⟨_, ⟨_, _, _, q22, rfl, rfl, rfl⟩, fun _ _ h => h⟩) (ea_cons (ev_op (ev_op (ev_rf (i := 0) rfl) (ev_int (i := 2)) (rr_ixC (f := dI) 0 rfl q24)) (ev_int (i := 64)) rr_i) ea_nil)) ⟨_, ⟨_, _, _, q26, rfl, rfl, rfl⟩, fun _ _ h => h⟩) (ev_int (i := 64)) (rr_div q28)) (ev_var (i := 1) rfl) (rr_mod q30)) hfin ⟨rfl, rfl⟩ (List.Sublist.cons₂ _ (List.nil_sublist _))
end K92
set_option maxHeartbeats 2000000
namespace K92
open PySem PySem.Spec PyProof.Rows L2 Evl FC
theorem ok_m_law_kind {P : Program} {w : World} {K : PySem.W.Frag} {mg : Str → Option Value} {base : Heap} {f : Addr} {fd : FuncData} (FF : Fun K "_law_kind" "_law_kind" sm_law_kind f fd) {f_m_law_pick : Addr} {fd_m_law_pick : FuncData} (G_m_law_pick : FnOk P w K mg base CX0 2 f_m_law_pick fd_m_law_pick ["left", "many"] (spOf K (pf_m_law_pick))) (g_m_law_pick : mg "_law_pick" = some (.ref f_m_law_pick)) (k_m_law_pick : PySem.W.keepIn K (.ref f_m_law_pick) = true) (b_m_law_pick : Binds K fd_m_law_pick ["left", "many"] []) : FnOk P w K mg base CX0 3 f fd ["left"] (spOf K (pf_m_law_kind)) := by
  refine ok_of (N := N_m_law_kind) FF sc_m_law_kind (fun as m R hG => ?_) (fun cdv A outer s H E hr => ?_)
  · obtain ⟨l_left, v_left, r_, w_left, _, rfl, _⟩ := hG
    rfl
  · have nd : (N_m_law_kind : List Str).Nodup := sc_m_law_kind.nd
    refine ⟨_, (pss_cons (ps_ret (pe_tup (pa_cons (pe_ix (kIx (r := rIxL) (K := K) ix_list rfl) (pe_lst (pa_cons pe_int (pa_cons pe_int (pa_cons pe_int (pa_cons pe_int (pa_cons pe_int (pa_cons pe_int (pa_cons pe_int (pa_cons pe_int pa_nil))))))))) (pe_call G_m_law_pick (hr.mono (by decide)) (by rfl) g_m_law_pick k_m_law_pick b_m_law_pick .nil pass0 (pa_cons (pv 0) (pa_cons pe_int pa_nil))) (fun _ _ => rfl)) (pa_cons (pe_ix (kIx (r := rIxL) (K := K) ix_list rfl) (pe_lst (pa_cons pe_int (pa_cons pe_int (pa_cons pe_int (pa_cons pe_int (pa_cons pe_int (pa_cons pe_int pa_nil))))))) (pe_call G_m_law_pick (hr.mono (by decide)) (by rfl) g_m_law_pick k_m_law_pick b_m_law_pick .nil pass0 (pa_cons (pv 0) (pa_cons pe_int pa_nil))) (fun _ _ => rfl)) pa_nil)))) pss_nil), ?_⟩
    rintro as m R ⟨l_left, v_left, r_, w_left, h0, rfl, rfl, rfl⟩ F D rfl hk hfin hnx
    unfold m_law_kind at h0
    show Wp _ _ _ [.rf l_left] [(l_left, .ls (List.map dI v_left))]
    obtain ⟨⟨t1, c2⟩, q3, h0⟩ := bindS h0
    obtain ⟨t4, q5, h0⟩ := bindS h0
    obtain ⟨⟨t6, c7⟩, q8, h0⟩ := bindS h0
    obtain ⟨t9, q10, h0⟩ := bindS h0
    have z0_ := Option.some.inj h0
    obtain ⟨e0_, e1_⟩ := Prod.mk.inj z0_
    subst e0_
    subst e1_
    exact wp_retS (show Ev _ _ _ _ (.da ((dP dI dI) (t4, t9))) _ from ev_tup (dl := [dI t4, dI t9]) (ea_cons (ev_op (show Ev _ _ _ _ (.da ((dL dI) ([(1 : Int), (2 : Int), (3 : Int), (3 : Int), (3 : Int), (4 : Int), (5 : Int), (2 : Int)] : (List Int)))) _ from ev_lst (dl := [dI (1 : Int), dI (2 : Int), dI (3 : Int), dI (3 : Int), dI (3 : Int), dI (4 : Int), dI (5 : Int), dI (2 : Int)]) (ea_cons (ev_int (i := 1)) (ea_cons (ev_int (i := 2)) (ea_cons (ev_int (i := 3)) (ea_cons (ev_int (i := 3)) (ea_cons (ev_int (i := 3)) (ea_cons (ev_int (i := 4)) (ea_cons (ev_int (i := 5)) (ea_cons (ev_int (i := 2)) ea_nil)))))))) (Nat.le_of_ble_eq_true rfl)) (ev_call1 0 (ea_cons (ev_rf (i := 0) rfl) (ea_cons (ev_int (i := 8)) ea_nil)) rfl ⟨_, ⟨_, _, _, _, _, q3, rfl, rfl, rfl⟩, fun _ _ h => h⟩) (rr_ixL (f := dI) q5)) (ea_cons (ev_op (show Ev _ _ _ _ (.da ((dL dI) ([(3 : Int), (6 : Int), (20 : Int), (256 : Int), (1000 : Int), (10 : Int)] : (List Int)))) _ from ev_lst (dl := [dI (3 : Int), dI (6 : Int), dI (20 : Int), dI (256 : Int), dI (1000 : Int), dI (10 : Int)]) (ea_cons (ev_int (i := 3)) (ea_cons (ev_int (i := 6)) (ea_cons (ev_int (i := 20)) (ea_cons (ev_int (i := 256)) (ea_cons (ev_int (i := 1000)) (ea_cons (ev_int (i := 10)) ea_nil)))))) (Nat.le_of_ble_eq_true rfl)) (ev_call1 0 (ea_cons (ev_rf (i := 0) rfl) (ea_cons (ev_int (i := 6)) ea_nil)) rfl ⟨_, ⟨_, _, _, _, _, q8, rfl, rfl, rfl⟩, fun _ _ h => h⟩) (rr_ixL (f := dI) q10)) ea_nil)) (Nat.le_of_ble_eq_true rfl)) hfin ⟨rfl, rfl⟩ (List.Sublist.cons₂ _ (List.nil_sublist _))
end K92
set_option maxHeartbeats 2000000
namespace K92
open PySem PySem.Spec PyProof.Rows L2 Evl FC
theorem ok_m_law_colour {P : Program} {w : World} {K : PySem.W.Frag} {mg : Str → Option Value} {base : Heap} {f : Addr} {fd : FuncData} (FF : Fun K "_law_colour" "_law_colour" sm_law_colour f fd) {f_m_law_pick : Addr} {fd_m_law_pick : FuncData} (G_m_law_pick : FnOk P w K mg base CX0 2 f_m_law_pick fd_m_law_pick ["left", "many"] (spOf K (pf_m_law_pick))) (g_m_law_pick : mg "_law_pick" = some (.ref f_m_law_pick)) (k_m_law_pick : PySem.W.keepIn K (.ref f_m_law_pick) = true) (b_m_law_pick : Binds K fd_m_law_pick ["left", "many"] []) (n_int : mg "int" = none) (n_range : mg "range" = none) (n_tuple : mg "tuple" = none) : FnOk P w K mg base CX0 3 f fd ["left", "kind"] (spOf K (pf_m_law_colour)) := by
  refine ok_of (N := N_m_law_colour) FF sc_m_law_colour (fun as m R hG => ?_) (fun cdv A outer s H E hr => ?_)
  · obtain ⟨l_left, v_left, v_kind, r_, w_left, _, rfl, _⟩ := hG
    rfl
  · have nd : (N_m_law_colour : List Str).Nodup := sc_m_law_colour.nd
    refine ⟨_, (pss_cons (ps_asg (pv 1) (pg_tup rfl (pgs_cons (pg_name (i := 2) nd rfl (Or.inl rfl)) (pgs_cons (pg_name (i := 3) nd rfl (Or.inr rfl)) pgs_nil))))
      (pss_cons (ps_ret (pe_callTy (kCa (r := rTupOf) (K := K) call_tuple_of rfl) (by rfl) n_tuple (by decide +kernel) (pa_cons (pe_lc (own := [("place", 4)]) (g := gName 4) (tt := tYes) rfl nd (pi_range1 (by rfl) n_range (pa_cons (pv 2) pa_nil)) (blkOk_by (own := [("place", 4)]) (N := N_m_law_colour) (sc := (defScope sm_law_colour)) (by decide +kernel)) (fun _ _ _ _ _ => (pg_name (i := 4) nd rfl (by first | exact Or.inl rfl | exact Or.inr rfl))) (fun _ _ _ _ _ => pts_nil) (fun _ _ _ _ _ => (pe_ix (kIx (r := rIxL) (K := K) ix_list rfl) (pe_lst (pa_cons (pe_call G_m_law_pick (hr.mono (by decide)) (by rfl) g_m_law_pick k_m_law_pick b_m_law_pick .nil pass0 (pa_cons (pv 0) (pa_cons (pv 3) pa_nil))) (pa_cons pe_int pa_nil))) (pe_callTy call_int1 (by rfl) n_int (by decide +kernel) (pa_cons (pe_cmpR op_eq (pe_call G_m_law_pick (hr.mono (by decide)) (by rfl) g_m_law_pick k_m_law_pick b_m_law_pick .nil pass0 (pa_cons (pv 0) (pa_cons pe_int pa_nil))) pe_int (nomark _)) pa_nil)) (fun _ _ => rfl)))) pa_nil))) pss_nil)), ?_⟩
    rintro as m R ⟨l_left, v_left, v_kind, r_, w_left, h0, rfl, rfl, rfl⟩ F D rfl hk hfin hnx
    unfold m_law_colour at h0
    show Wp _ _ _ [.rf l_left, .da ((dP dI dI) v_kind), .un, .un, .un] [(l_left, .ls (List.map dI v_left))]
    refine wp_unp2 (f := dI) (g := dI) (i := 2) (j := 3) (ev_var (i := 1) rfl) ?_
    show Wp _ _ _ [.rf l_left, .da ((dP dI dI) v_kind), .da (dI (v_kind).1), .da (dI (v_kind).2), .un] [(l_left, .ls (List.map dI v_left))]
    obtain ⟨rg1, q2, h0⟩ := bindS h0
    obtain ⟨u12, q13, h0⟩ := bindS h0
    obtain ⟨⟨o15, c14⟩, q25, h0⟩ := bindS h0
    have z0_ := Option.some.inj h0
    obtain ⟨e0_, e1_⟩ := Prod.mk.inj z0_
    subst e0_
    subst e1_
    exact wp_retS (ev_cb (ea_cons (lc_end (lc_mapS (f2 := dI) (fun (s_ : (List Int)) => [(l_left, .ls (List.map dI s_))]) (src_R1 (j := 4) (ea_cons (ev_var (i := 2) rfl) ea_nil) q2) rfl (by decide) (fun _ => (fun _ => True.intro)) q13 q25 (by rintro s16 v_place3 y_ s_ hx_ h_; obtain ⟨⟨t17, c18⟩, q19, h_⟩ := bindS h_; obtain ⟨⟨t20, c21⟩, q22, h_⟩ := bindS h_; obtain ⟨t23, q24, h_⟩ := bindS h_; cases h_; exact (ev_op (show Ev _ _ _ _ (.da ((dL dI) ([t17, (999 : Int)] : (List Int)))) _ from ev_lst (dl := [dI t17, dI (999 : Int)]) (ea_cons (ev_call1 0 (ea_cons (ev_rf (i := 0) rfl) (ea_cons (ev_var (i := 3) rfl) ea_nil)) rfl ⟨_, ⟨_, _, _, _, _, q19, rfl, rfl, rfl⟩, fun _ _ h => h⟩) (ea_cons (ev_int (i := 999)) ea_nil)) (Nat.le_of_ble_eq_true rfl)) (ev_cb (ea_cons (ev_op (ev_call1 0 (ea_cons (ev_rf (i := 0) rfl) (ea_cons (ev_int (i := 8)) ea_nil)) rfl ⟨_, ⟨_, _, _, _, _, q22, rfl, rfl, rfl⟩, fun _ _ h => h⟩) (ev_int (i := 0)) rr_eqI) ea_nil) rc_intB) (rr_ixL (f := dI) q24))))) ea_nil) (rc_tupL (f := dI))) hfin ⟨rfl, rfl⟩ (List.Sublist.cons₂ _ (List.nil_sublist _))
end K92
set_option maxHeartbeats 2000000
namespace K92
open PySem PySem.Spec PyProof.Rows L2 Evl FC
theorem ok_m_law_apart {P : Program} {w : World} {K : PySem.W.Frag} {mg : Str → Option Value} {base : Heap} {f : Addr} {fd : FuncData} (FF : Fun K "_law_apart" "_law_apart" sm_law_apart f fd) (n_sum : mg "sum" = none) (n_zip : mg "zip" = none) : FnOk P w K mg base CX0 1 f fd ["one", "other"] (spOf K (pf_m_law_apart)) := by
  refine ok_of (N := N_m_law_apart) FF sc_m_law_apart (fun as m R hG => ?_) (fun cdv A outer s H E hr => ?_)
  · obtain ⟨v_one, v_other, r_, _, rfl, _⟩ := hG
    rfl
  · have nd : (N_m_law_apart : List Str).Nodup := sc_m_law_apart.nd
    refine ⟨_, (pss_cons (ps_ret (pe_callB (kCa (r := rSum) (K := K) (cr_sum rfl) rfl) (by rfl) n_sum (by decide +kernel) (pa_cons (pe_lc (own := [("a", 2), ("b", 3)]) (g := gTup K 2 (gCons (gName 2) (gCons (gName 3) gNil))) (tt := tYes) rfl nd (kPi (r := fun K => RZ.iZipA K _) (K := K) (RZ.pi_zipA (by rfl) n_zip (pa_cons (pv 0) (pa_cons (pv 1) pa_nil))) rfl) (blkOk_by (own := [("a", 2), ("b", 3)]) (N := N_m_law_apart) (sc := (defScope sm_law_apart)) (by decide +kernel)) (fun _ _ _ _ _ => (pg_tup rfl (pgs_cons (pg_name (i := 2) nd rfl (by first | exact Or.inl rfl | exact Or.inr rfl)) (pgs_cons (pg_name (i := 3) nd rfl (by first | exact Or.inl rfl | exact Or.inr rfl)) pgs_nil)))) (fun _ _ _ _ _ => pts_nil) (fun _ _ _ _ _ => (pe_op op_mulA (pe_op op_sub (pv 2) (pv 3)) (pe_op op_sub (pv 2) (pv 3))))) pa_nil))) pss_nil), ?_⟩
    rintro as m R ⟨v_one, v_other, r_, h0, rfl, rfl, rfl⟩ F D rfl hk hfin hnx
    unfold m_law_apart at h0
    show Wp _ _ _ [.da ((dU dI) v_one), .da ((dU dI) v_other), .un, .un] []
    obtain ⟨u4, q5, h0⟩ := bindS h0
    obtain ⟨o6, q7, h0⟩ := bindS h0
    have e0_ := Option.some.inj h0
    subst e0_
    exact wp_retS (ev_cb (ea_cons (lc_end (lc_map (f2 := dI) (src_ZU (f := dI) (f2 := dI) (j := 2) (k := 3) (ea_cons (ev_var (i := 0) rfl) (ea_cons (ev_var (i := 1) rfl) ea_nil))) (by decide) (fun _ => True.intro) q5 q7 (by rintro ⟨v_a1, v_b1⟩ y_ hx_ h_; obtain ⟨t2, q3, h_⟩ := bindS h_; cases h_; exact (ev_op (ev_op (ev_var (i := 2) rfl) (ev_var (i := 3) rfl) rr_i) (ev_op (ev_var (i := 2) rfl) (ev_var (i := 3) rfl) rr_i) (rr_mul q3))))) ea_nil) rc_sum) hfin ⟨rfl, rfl⟩ (List.nil_sublist _)
end K92
set_option maxHeartbeats 2000000
namespace K92
open PySem PySem.Spec PyProof.Rows L2 Evl FC
theorem ok_m_law_few {P : Program} {w : World} {K : PySem.W.Frag} {mg : Str → Option Value} {base : Heap} {f : Addr} {fd : FuncData} (FF : Fun K "_law_few" "_law_few" sm_law_few f fd) {f_m_law_colour : Addr} {fd_m_law_colour : FuncData} (G_m_law_colour : FnOk P w K mg base CX0 3 f_m_law_colour fd_m_law_colour ["left", "kind"] (spOf K (pf_m_law_colour))) (g_m_law_colour : mg "_law_colour" = some (.ref f_m_law_colour)) (k_m_law_colour : PySem.W.keepIn K (.ref f_m_law_colour) = true) (b_m_law_colour : Binds K fd_m_law_colour ["left", "kind"] []) {f_m_law_pick : Addr} {fd_m_law_pick : FuncData} (G_m_law_pick : FnOk P w K mg base CX0 2 f_m_law_pick fd_m_law_pick ["left", "many"] (spOf K (pf_m_law_pick))) (g_m_law_pick : mg "_law_pick" = some (.ref f_m_law_pick)) (k_m_law_pick : PySem.W.keepIn K (.ref f_m_law_pick) = true) (b_m_law_pick : Binds K fd_m_law_pick ["left", "many"] []) (n_len : mg "len" = none) (n_range : mg "range" = none) : FnOk P w K mg base CX0 4 f fd ["left", "kind", "most"] (spOf K (pf_m_law_few)) := by
  refine ok_of (N := N_m_law_few) FF sc_m_law_few (fun as m R hG => ?_) (fun cdv A outer s H E hr => ?_)
  · obtain ⟨l_left, v_left, v_kind, v_most, r_, w_left, _, rfl, _⟩ := hG
    rfl
  · have nd : (N_m_law_few : List Str).Nodup := sc_m_law_few.nd
    refine ⟨_, (pss_cons (ps_set (i := 3) nd rfl (Or.inl rfl) (pe_lst pa_nil))
      (pss_cons (ps_for PassesOwn.never rfl (pi_range1 (by rfl) n_range (pa_cons (pe_op op_add pe_int (pe_call G_m_law_pick (hr.mono (by decide)) (by rfl) g_m_law_pick k_m_law_pick b_m_law_pick .nil pass0 (pa_cons (pv 0) (pa_cons (pv 2) pa_nil)))) pa_nil)) (pg_name (i := 4) nd rfl (by first | exact Or.inl rfl | exact Or.inr rfl))
      (pss_cons (ps_set (i := 5) nd rfl (Or.inl rfl) (pe_call G_m_law_colour (hr.mono (by decide)) (by rfl) g_m_law_colour k_m_law_colour b_m_law_colour .nil pass0 (pa_cons (pv 0) (pa_cons (pv 1) pa_nil))))
      (Evl.pss_cut (ps_if (PW.pt (pw_and (pt_cmpR (kOp (r := rNeP) (K := K) (op_neP hr.units) rfl) (pv 3) (pe_lst pa_nil) (nomark _)) (pw_and1 (pt_cmpR op_eq (pe_call G_m_law_pick (hr.mono (by decide)) (by rfl) g_m_law_pick k_m_law_pick b_m_law_pick .nil pass0 (pa_cons (pv 0) (pa_cons pe_int pa_nil))) pe_int (nomark _))))) (pss_cons (ps_set (i := 5) nd rfl (Or.inl rfl) (pe_ix (kIx (r := rIxL) (K := K) ix_list rfl) (pv 3) (pe_call G_m_law_pick (hr.mono (by decide)) (by rfl) g_m_law_pick k_m_law_pick b_m_law_pick .nil pass0 (pa_cons (pv 0) (pa_cons (pe_callB (kCa (r := rLenA) (K := K) call_len_seq rfl) (by rfl) n_len (by decide +kernel) (pa_cons (pv 3) pa_nil)) pa_nil))) (fun _ _ => rfl)))
      pss_nil) pss_nil)
      (pss_cons (ps_expr (pe_bm PySem.F.plainAttrs_list PySem.F.slot_list_append PySem.F.type_list_append mt_append (pv 3) (pa_cons (pv 5) pa_nil)))
      pss_nil))))
      (pss_cons (ps_ret (pv 3)) pss_nil))), ?_⟩
    rintro as m R ⟨l_left, v_left, v_kind, v_most, r_, w_left, h0, rfl, rfl, rfl⟩ F D rfl hk hfin hnx
    unfold m_law_few at h0
    show Wp _ _ _ [.rf l_left, .da ((dP dI dI) v_kind), .da (dI v_most), .un, .un, .un] [(l_left, .ls (List.map dI v_left))]
    refine wp_asgN (i := 3) (show EvN _ _ _ _ (.ls (List.map (dU dI) ([] : (List (List Int))))) _ from en_lst (dl := []) ea_nil (Nat.le_of_ble_eq_true rfl)) (fun l_1 nk_l_1 => ?_) rfl
    show Wp _ _ _ [.rf l_left, .da ((dP dI dI) v_kind), .da (dI v_most), .rf l_1, .un, .un] [(l_left, .ls (List.map dI v_left)), (l_1, .ls (List.map (dU dI) ([] : (List (List Int)))))]
    obtain ⟨⟨t2, c3⟩, q4, h0⟩ := bindS h0
    obtain ⟨rg5, q6, h0⟩ := bindS h0
    obtain ⟨⟨c58, c59⟩, q60, h0⟩ := bindS h0
    refine wp_forF (fun (s_ : (List Int) × (List (List Int))) => [.rf l_left, .da ((dP dI dI) v_kind), .da (dI v_most), .rf l_1, .un, .un]) (fun (s_ : (List Int) × (List (List Int))) => [(l_left, .ls (List.map dI s_.1)), (l_1, .ls (List.map (dU dI) s_.2))]) (src_R1 (j := 4) (ea_cons (ev_op (ev_int (i := 1)) (ev_call1 0 (ea_cons (ev_rf (i := 0) rfl) (ea_cons (ev_var (i := 2) rfl) ea_nil)) rfl ⟨_, ⟨_, _, _, _, _, q4, rfl, rfl, rfl⟩, fun _ _ h => h⟩) rr_i) ea_nil) q6) q60 (.cons .rfl (.cons .rfl (.cons .rfl (.cons .rfl (.cons .un (.cons .un Wks.nil)))))) rfl (fun _ => True.intro) ?_ ?_
    · rintro lo1 ⟨c8, c9⟩ v_k7 s_ hx1 h1 D1 he1 hn1 hct1
      show Wp _ _ _ [.rf l_left, .da ((dP dI dI) v_kind), .da (dI v_most), .rf l_1, .da (dI v_k7), .un] [(l_left, .ls (List.map dI c8)), (l_1, .ls (List.map (dU dI) c9))]
      obtain ⟨⟨t34, c35⟩, q36, h1⟩ := bindS h1
      refine wp_asg (i := 5) (ev_call1 0 (ea_cons (ev_rf (i := 0) rfl) (ea_cons (ev_var (i := 1) rfl) ea_nil)) rfl ⟨_, ⟨_, _, _, _, _, q36, rfl, rfl, rfl⟩, fun _ _ h => h⟩) ?_
      show Wp _ _ _ [.rf l_left, .da ((dP dI dI) v_kind), .da (dI v_most), .rf l_1, .da (dI v_k7), .da ((dU dI) t34)] [(l_left, .ls (List.map dI c35)), (l_1, .ls (List.map (dU dI) c9))]
      obtain ⟨⟨b40, c41⟩, q42, h1⟩ := bindS h1
      obtain ⟨⟨v_colour48, c49⟩, q55, h1⟩ := bindS h1
      refine wp_cutIf (ds' := [.rf l_left, .da ((dP dI dI) v_kind), .da (dI v_most), .rf l_1, .da (dI v_k7), .da ((dU dI) v_colour48)]) (m' := [(l_left, .ls (List.map dI c49)), (l_1, .ls (List.map (dU dI) c9))]) ?_ (et_and (k2 := b40) (m' := [(l_left, .ls (List.map dI c41)), (l_1, .ls (List.map (dU dI) c9))]) (et_test (ev_op (ev_rf (i := 3) rfl) (show Ev _ _ _ _ (.da ((dL (dU dI)) ([] : (List (List Int))))) _ from ev_lst (dl := []) ea_nil (Nat.le_of_ble_eq_true rfl)) (rr_neC (f := (dU dI)) (by decide) 1 rfl))) (fun e => by have h_ := condT e q42; obtain ⟨⟨t37, c38⟩, q39, h_⟩ := bindS h_; cases h_; exact (et_test (ev_op (ev_call1 0 (ea_cons (ev_rf (i := 0) rfl) (ea_cons (ev_int (i := 5)) ea_nil)) rfl ⟨_, ⟨_, _, _, _, _, q39, rfl, rfl, rfl⟩, fun _ _ h => h⟩) (ev_int (i := 0)) rr_eqI))) (fun e => by have h_ := condF e q42; cases h_; exact ⟨rfl, rfl⟩)) (fun hc => ?_) (fun hc => ?_)
      · obtain ⟨u56, q57, h1⟩ := bindS h1
        refine wp_expr (ev_bm (ev_rf (i := 3) rfl) (j := 1) rfl (ea_cons (ev_var (i := 5) rfl) ea_nil) (rm_app (f := (dU dI)) 1 rfl q57)) ?_
        show Wp _ _ _ [.rf l_left, .da ((dP dI dI) v_kind), .da (dI v_most), .rf l_1, .da (dI v_k7), .da ((dU dI) v_colour48)] [(l_left, .ls (List.map dI c49)), (l_1, .ls (List.map (dU dI) (c9 ++ [v_colour48])))]
        cases h1
        exact wp_next fun σ H a => hn1 σ H (at_weak (.cons .rfl (.cons .rfl (.cons .rfl (.cons .rfl (.cons .un (.cons .un Wks.nil)))))) a)
      · have h102 := condT hc q55
        obtain ⟨⟨t50, c51⟩, q52, h102⟩ := bindS h102
        obtain ⟨t53, q54, h102⟩ := bindS h102
        refine wp_asg (i := 5) (ev_op (ev_rf (i := 3) rfl) (ev_call1 0 (ea_cons (ev_rf (i := 0) rfl) (ea_cons (ev_cb (ea_cons (ev_rf (i := 3) rfl) ea_nil) (rc_lenC (f := (dU dI)) 1 rfl)) ea_nil)) rfl ⟨_, ⟨_, _, _, _, _, q52, rfl, rfl, rfl⟩, fun _ _ h => h⟩) (rr_ixC (f := (dU dI)) 1 rfl q54)) ?_
        show Wp _ _ _ [.rf l_left, .da ((dP dI dI) v_kind), .da (dI v_most), .rf l_1, .da (dI v_k7), .da ((dU dI) t53)] [(l_left, .ls (List.map dI c51)), (l_1, .ls (List.map (dU dI) c9))]
        cases h102
        exact wp_nextW (.cons .rfl (.cons .rfl (.cons .rfl (.cons .rfl (.cons .rfl (.cons .rfl Wks.nil)))))) rfl
      · have h102 := condF hc q55
        cases h102
        exact wp_nextW (.cons .rfl (.cons .rfl (.cons .rfl (.cons .rfl (.cons .rfl (.cons .rfl Wks.nil)))))) rfl
    · show Wp _ _ _ [.rf l_left, .da ((dP dI dI) v_kind), .da (dI v_most), .rf l_1, .un, .un] [(l_left, .ls (List.map dI c58)), (l_1, .ls (List.map (dU dI) c59))]
      have z0_ := Option.some.inj h0
      obtain ⟨e0_, e1_⟩ := Prod.mk.inj z0_
      subst e0_
      subst e1_
      exact wp_retS (ev_rf (i := 3) rfl) hfin ⟨_, rfl, rfl⟩ (List.Sublist.cons₂ _ (List.Sublist.cons₂ _ (List.nil_sublist _)))
end K92
set_option maxHeartbeats 2000000
namespace K92
open PySem PySem.Spec PyProof.Rows L2 Evl FC
theorem ok_m_law_two {P : Program} {w : World} {K : PySem.W.Frag} {mg : Str → Option Value} {base : Heap} {f : Addr} {fd : FuncData} (FF : Fun K "_law_two" "_law_two" sm_law_two f fd) {f_m_law_few : Addr} {fd_m_law_few : FuncData} (G_m_law_few : FnOk P w K mg base CX0 4 f_m_law_few fd_m_law_few ["left", "kind", "most"] (spOf K (pf_m_law_few))) (g_m_law_few : mg "_law_few" = some (.ref f_m_law_few)) (k_m_law_few : PySem.W.keepIn K (.ref f_m_law_few) = true) (b_m_law_few : Binds K fd_m_law_few ["left", "kind", "most"] []) {f_m_law_kind : Addr} {fd_m_law_kind : FuncData} (G_m_law_kind : FnOk P w K mg base CX0 3 f_m_law_kind fd_m_law_kind ["left"] (spOf K (pf_m_law_kind))) (g_m_law_kind : mg "_law_kind" = some (.ref f_m_law_kind)) (k_m_law_kind : PySem.W.keepIn K (.ref f_m_law_kind) = true) (b_m_law_kind : Binds K fd_m_law_kind ["left"] []) {f_m_law_pick : Addr} {fd_m_law_pick : FuncData} (G_m_law_pick : FnOk P w K mg base CX0 2 f_m_law_pick fd_m_law_pick ["left", "many"] (spOf K (pf_m_law_pick))) (g_m_law_pick : mg "_law_pick" = some (.ref f_m_law_pick)) (k_m_law_pick : PySem.W.keepIn K (.ref f_m_law_pick) = true) (b_m_law_pick : Binds K fd_m_law_pick ["left", "many"] []) (n_len : mg "len" = none) (n_range : mg "range" = none) : FnOk P w K mg base CX0 5 f fd ["left", "most"] (spOf K (pf_m_law_two)) := by
  refine ok_of (N := N_m_law_two) FF sc_m_law_two (fun as m R hG => ?_) (fun cdv A outer s H E hr => ?_)
  · obtain ⟨l_left, v_left, v_most, r_, w_left, _, rfl, _⟩ := hG
    rfl
  · have nd : (N_m_law_two : List Str).Nodup := sc_m_law_two.nd
    refine ⟨_, (pss_cons (ps_set (i := 2) nd rfl (Or.inl rfl) (pe_call G_m_law_kind (hr.mono (by decide)) (by rfl) g_m_law_kind k_m_law_kind b_m_law_kind .nil pass0 (pa_cons (pv 0) pa_nil)))
      (pss_cons (ps_par (i := 3) (j := 4) rfl nd rfl rfl (by decide) rfl rfl (pa_cons (pe_call G_m_law_few (hr.mono (by decide)) (by rfl) g_m_law_few k_m_law_few b_m_law_few .nil pass0 (pa_cons (pv 0) (pa_cons (pv 2) (pa_cons (pv 1) pa_nil)))) (pa_cons (pe_call G_m_law_few (hr.mono (by decide)) (by rfl) g_m_law_few k_m_law_few b_m_law_few .nil pass0 (pa_cons (pv 0) (pa_cons (pv 2) (pa_cons (pv 1) pa_nil)))) pa_nil)) (by rfl))
      (pss_cons (ps_for PassesOwn.never rfl (pi_range1 (by rfl) n_range (pa_cons (pe_callB (kCa (r := rLenA) (K := K) call_len_seq rfl) (by rfl) n_len (by decide +kernel) (pa_cons (pv 4) pa_nil)) pa_nil)) (pg_name (i := 5) nd rfl (by first | exact Or.inl rfl | exact Or.inr rfl))
      (Evl.pss_cut (ps_if (pt_cmpR op_eq (pe_call G_m_law_pick (hr.mono (by decide)) (by rfl) g_m_law_pick k_m_law_pick b_m_law_pick .nil pass0 (pa_cons (pv 0) (pa_cons pe_int pa_nil))) pe_int (nomark _)) (pss_cons (ps_asg (pe_ix (kIx (r := rIxL) (K := K) ix_list rfl) (pv 3) (pe_call G_m_law_pick (hr.mono (by decide)) (by rfl) g_m_law_pick k_m_law_pick b_m_law_pick .nil pass0 (pa_cons (pv 0) (pa_cons (pe_callB (kCa (r := rLenA) (K := K) call_len_seq rfl) (by rfl) n_len (by decide +kernel) (pa_cons (pv 3) pa_nil)) pa_nil))) (fun _ _ => rfl)) (pg_sub (pv 4) (pv 5) set_list))
      pss_nil) pss_nil)
      pss_nil))
      (pss_cons (ps_ret (pe_tup (pa_cons (pv 3) (pa_cons (pv 4) pa_nil)))) pss_nil)))), ?_⟩
    rintro as m R ⟨l_left, v_left, v_most, r_, w_left, h0, rfl, rfl, rfl⟩ F D rfl hk hfin hnx
    unfold m_law_two at h0
    show Wp _ _ _ [.rf l_left, .da (dI v_most), .un, .un, .un, .un] [(l_left, .ls (List.map dI v_left))]
    obtain ⟨⟨t1, c2⟩, q3, h0⟩ := bindS h0
    refine wp_asg (i := 2) (ev_call1 0 (ea_cons (ev_rf (i := 0) rfl) ea_nil) rfl ⟨_, ⟨_, _, _, _, q3, rfl, rfl, rfl⟩, fun _ _ h => h⟩) ?_
    show Wp _ _ _ [.rf l_left, .da (dI v_most), .da ((dP dI dI) t1), .un, .un, .un] [(l_left, .ls (List.map dI c2))]
    obtain ⟨⟨c4, c5⟩, q6, h0⟩ := bindS h0
    obtain ⟨⟨c7, c8⟩, q9, h0⟩ := bindS h0
    refine wp_parDN (i := 3) (j := 4) (ev_frz (en_callP (mc := [(l_left, .ls (List.map dI c2))]) (mc' := [(l_left, .ls (List.map dI c5))]) (fr := []) (cd := .ls (List.map (dU dI) c4)) (m2 := [(l_left, .ls (List.map dI c5))]) (ea_cons (ev_rf (i := 0) rfl) (ea_cons (ev_var (i := 2) rfl) (ea_cons (ev_var (i := 1) rfl) ea_nil))) (perm_ix (n := 1) [0] rfl (by decide) rfl) (perm_ix (n := 1) [0] rfl (by decide) rfl) ⟨_, ⟨_, _, _, _, _, _, q6, rfl, rfl, rfl⟩, fun _ _ h => h⟩) rfl) (en_callP (mc := [(l_left, .ls (List.map dI c5))]) (mc' := [(l_left, .ls (List.map dI c8))]) (fr := []) (cd := .ls (List.map (dU dI) c7)) (m2 := [(l_left, .ls (List.map dI c8))]) (ea_cons (ev_rf (i := 0) rfl) (ea_cons (ev_var (i := 2) rfl) (ea_cons (ev_var (i := 1) rfl) ea_nil))) (perm_ix (n := 1) [0] rfl (by decide) rfl) (perm_ix (n := 1) [0] rfl (by decide) rfl) ⟨_, ⟨_, _, _, _, _, _, q9, rfl, rfl, rfl⟩, fun _ _ h => h⟩) (fun l_10 nk_l_10 => ?_) rfl
    show Wp _ _ _ [.rf l_left, .da (dI v_most), .da ((dP dI dI) t1), .da ((dL (dU dI)) c4), .rf l_10, .un] [(l_left, .ls (List.map dI c8)), (l_10, .ls (List.map (dU dI) c7))]
    obtain ⟨rg12, q13, h0⟩ := bindS h0
    obtain ⟨⟨c57, c58⟩, q59, h0⟩ := bindS h0
    refine wp_forF (fun (s_ : (List Int) × (List (List Int))) => [.rf l_left, .da (dI v_most), .da ((dP dI dI) t1), .da ((dL (dU dI)) c4), .rf l_10, .un]) (fun (s_ : (List Int) × (List (List Int))) => [(l_left, .ls (List.map dI s_.1)), (l_10, .ls (List.map (dU dI) s_.2))]) (src_R1 (j := 5) (ea_cons (ev_cb (ea_cons (ev_rf (i := 4) rfl) ea_nil) (rc_lenC (f := (dU dI)) 1 rfl)) ea_nil) q13) q59 (.cons .rfl (.cons .rfl (.cons .rfl (.cons .rfl (.cons .rfl (.cons .un Wks.nil)))))) rfl (fun _ => True.intro) ?_ ?_
    · rintro lo1 ⟨c15, c16⟩ v_k14 s_ hx1 h1 D1 he1 hn1 hct1
      show Wp _ _ _ [.rf l_left, .da (dI v_most), .da ((dP dI dI) t1), .da ((dL (dU dI)) c4), .rf l_10, .da (dI v_k14)] [(l_left, .ls (List.map dI c15)), (l_10, .ls (List.map (dU dI) c16))]
      obtain ⟨⟨t37, c38⟩, q39, h1⟩ := bindS h1
      obtain ⟨⟨c47, c48⟩, q56, h1⟩ := bindS h1
      refine wp_cutIf (ds' := [.rf l_left, .da (dI v_most), .da ((dP dI dI) t1), .da ((dL (dU dI)) c4), .rf l_10, .da (dI v_k14)]) (m' := [(l_left, .ls (List.map dI c47)), (l_10, .ls (List.map (dU dI) c48))]) ?_ (et_test (ev_op (ev_call1 0 (ea_cons (ev_rf (i := 0) rfl) (ea_cons (ev_int (i := 4)) ea_nil)) rfl ⟨_, ⟨_, _, _, _, _, q39, rfl, rfl, rfl⟩, fun _ _ h => h⟩) (ev_int (i := 0)) rr_eqI)) (fun hc => ?_) (fun hc => ?_)
      · cases h1
        exact wp_next fun σ H a => hn1 σ H (at_weak (.cons .rfl (.cons .rfl (.cons .rfl (.cons .rfl (.cons .rfl (.cons .un Wks.nil)))))) a)
      · have h102 := condT hc q56
        obtain ⟨⟨t49, c50⟩, q51, h102⟩ := bindS h102
        obtain ⟨t52, q53, h102⟩ := bindS h102
        obtain ⟨c54, q55, h102⟩ := bindS h102
        refine wp_setL (f := (dU dI)) 1 (ev_op (ev_var (i := 3) rfl) (ev_call1 0 (ea_cons (ev_rf (i := 0) rfl) (ea_cons (ev_cb (ea_cons (ev_var (i := 3) rfl) ea_nil) (rc_lenL (f := (dU dI)))) ea_nil)) rfl ⟨_, ⟨_, _, _, _, _, q51, rfl, rfl, rfl⟩, fun _ _ h => h⟩) (rr_ixL (f := (dU dI)) q53)) (ev_rf (i := 4) rfl) (ev_var (i := 5) rfl) rfl q55 ?_
        show Wp _ _ _ [.rf l_left, .da (dI v_most), .da ((dP dI dI) t1), .da ((dL (dU dI)) c4), .rf l_10, .da (dI v_k14)] [(l_left, .ls (List.map dI c50)), (l_10, .ls (List.map (dU dI) c54))]
        cases h102
        exact wp_nextW (.cons .rfl (.cons .rfl (.cons .rfl (.cons .rfl (.cons .rfl (.cons .rfl Wks.nil)))))) rfl
      · have h102 := condF hc q56
        cases h102
        exact wp_nextW (.cons .rfl (.cons .rfl (.cons .rfl (.cons .rfl (.cons .rfl (.cons .rfl Wks.nil)))))) rfl
    · show Wp _ _ _ [.rf l_left, .da (dI v_most), .da ((dP dI dI) t1), .da ((dL (dU dI)) c4), .rf l_10, .un] [(l_left, .ls (List.map dI c57)), (l_10, .ls (List.map (dU dI) c58))]
      refine wp_frz (i := 4) (j := 1) (l := l_10) rfl rfl nk_l_10 ?_
      show Wp _ _ _ [.rf l_left, .da (dI v_most), .da ((dP dI dI) t1), .da ((dL (dU dI)) c4), .da ((dL (dU dI)) c58), .un] [(l_left, .ls (List.map dI c57))]
      have z0_ := Option.some.inj h0
      obtain ⟨e0_, e1_⟩ := Prod.mk.inj z0_
      subst e0_
      subst e1_
      exact wp_retS (show Ev _ _ _ _ (.da ((dP (dL (dU dI)) (dL (dU dI))) (c4, c58))) _ from ev_tup (dl := [(dL (dU dI)) c4, (dL (dU dI)) c58]) (ea_cons (ev_var (i := 3) rfl) (ea_cons (ev_var (i := 4) rfl) ea_nil)) (Nat.le_of_ble_eq_true rfl)) hfin ⟨rfl, rfl⟩ (List.Sublist.cons₂ _ (List.nil_sublist _))
end K92
set_option maxHeartbeats 2000000
namespace K92
open PySem PySem.Spec PyProof.Rows L2 Evl FC
theorem ok_m_law_price {P : Program} {w : World} {K : PySem.W.Frag} {mg : Str → Option Value} {base : Heap} {f : Addr} {fd : FuncData} (FF : Fun K "_law_price" "_law_price" sm_law_price f fd) {f_m_law_apart : Addr} {fd_m_law_apart : FuncData} (G_m_law_apart : FnOk P w K mg base CX0 1 f_m_law_apart fd_m_law_apart ["one", "other"] (spOf K (pf_m_law_apart))) (g_m_law_apart : mg "_law_apart" = some (.ref f_m_law_apart)) (k_m_law_apart : PySem.W.keepIn K (.ref f_m_law_apart) = true) (b_m_law_apart : Binds K fd_m_law_apart ["one", "other"] []) {f_m_law_pick : Addr} {fd_m_law_pick : FuncData} (G_m_law_pick : FnOk P w K mg base CX0 2 f_m_law_pick fd_m_law_pick ["left", "many"] (spOf K (pf_m_law_pick))) (g_m_law_pick : mg "_law_pick" = some (.ref f_m_law_pick)) (k_m_law_pick : PySem.W.keepIn K (.ref f_m_law_pick) = true) (b_m_law_pick : Binds K fd_m_law_pick ["left", "many"] []) (n_len : mg "len" = none) (n_min : mg "min" = none) : FnOk P w K mg base CX0 3 f fd ["left", "one", "other"] (spOf K (pf_m_law_price)) := by
  refine ok_of (N := N_m_law_price) FF sc_m_law_price (fun as m R hG => ?_) (fun cdv A outer s H E hr => ?_)
  · obtain ⟨l_left, v_left, v_one, v_other, r_, w_left, _, rfl, _⟩ := hG
    rfl
  · have nd : (N_m_law_price : List Str).Nodup := sc_m_law_price.nd
    refine ⟨_, (pss_cons (ps_par (i := 3) (j := 4) rfl nd rfl rfl (by decide) rfl rfl (pa_cons (pe_call G_m_law_pick (hr.mono (by decide)) (by rfl) g_m_law_pick k_m_law_pick b_m_law_pick .nil pass0 (pa_cons (pv 0) (pa_cons (pe_callB (kCa (r := rLenA) (K := K) call_len_seq rfl) (by rfl) n_len (by decide +kernel) (pa_cons (pv 1) pa_nil)) pa_nil))) (pa_cons (pe_call G_m_law_pick (hr.mono (by decide)) (by rfl) g_m_law_pick k_m_law_pick b_m_law_pick .nil pass0 (pa_cons (pv 0) (pa_cons (pe_callB (kCa (r := rLenA) (K := K) call_len_seq rfl) (by rfl) n_len (by decide +kernel) (pa_cons (pv 2) pa_nil)) pa_nil))) pa_nil)) (by rfl))
      (pss_cons (ps_set (i := 5) nd rfl (Or.inl rfl) (pe_call G_m_law_apart (hr.mono (by decide)) (by rfl) g_m_law_apart k_m_law_apart b_m_law_apart .nil pass0 (pa_cons (pe_ix (kIx (r := rIxL) (K := K) ix_list rfl) (pv 1) (pv 3) (fun _ _ => rfl)) (pa_cons (pe_ix (kIx (r := rIxL) (K := K) ix_list rfl) (pv 2) (pv 4) (fun _ _ => rfl)) pa_nil))))
      (pss_cons (ps_set (i := 6) nd rfl (Or.inl rfl) (pe_lst (pa_cons pe_int (pa_cons (pe_op op_add pe_int (pe_call G_m_law_pick (hr.mono (by decide)) (by rfl) g_m_law_pick k_m_law_pick b_m_law_pick .nil pass0 (pa_cons (pv 0) (pa_cons pe_int pa_nil)))) (pa_cons (pe_op op_add (pe_op op_divA (pv 5) pe_int) (pe_call G_m_law_pick (hr.mono (by decide)) (by rfl) g_m_law_pick k_m_law_pick b_m_law_pick .nil pass0 (pa_cons (pv 0) (pa_cons pe_int pa_nil)))) pa_nil)))))
      (pss_cons (ps_set (i := 6) nd rfl (Or.inl rfl) (pe_op op_cat (pv 6) (pe_lst (pa_cons (pv 5) (pa_cons (pe_call G_m_law_pick (hr.mono (by decide)) (by rfl) g_m_law_pick k_m_law_pick b_m_law_pick .nil pass0 (pa_cons (pv 0) (pa_cons (pe_op op_pow pe_int pe_int) pa_nil))) (pa_cons (pe_op op_pow pe_int pe_int) pa_nil))))))
      (pss_cons (ps_ret (pe_callB (call_min2 rfl) (by rfl) n_min (by decide +kernel) (pa_cons (pe_op op_pow pe_int pe_int) (pa_cons (pe_ix (kIx (r := rIxL) (K := K) ix_list rfl) (pv 6) (pe_call G_m_law_pick (hr.mono (by decide)) (by rfl) g_m_law_pick k_m_law_pick b_m_law_pick .nil pass0 (pa_cons (pv 0) (pa_cons pe_int pa_nil))) (fun _ _ => rfl)) pa_nil)))) pss_nil))))), ?_⟩
    rintro as m R ⟨l_left, v_left, v_one, v_other, r_, w_left, h0, rfl, rfl, rfl⟩ F D rfl hk hfin hnx
    unfold m_law_price at h0
    show Wp _ _ _ [.rf l_left, .da ((dL (dU dI)) v_one), .da ((dL (dU dI)) v_other), .un, .un, .un, .un] [(l_left, .ls (List.map dI v_left))]
    obtain ⟨⟨t1, c2⟩, q3, h0⟩ := bindS h0
    obtain ⟨⟨t4, c5⟩, q6, h0⟩ := bindS h0
    refine wp_par (i := 3) (j := 4) (ea_cons (ev_call1 0 (ea_cons (ev_rf (i := 0) rfl) (ea_cons (ev_cb (ea_cons (ev_var (i := 1) rfl) ea_nil) (rc_lenL (f := (dU dI)))) ea_nil)) rfl ⟨_, ⟨_, _, _, _, _, q3, rfl, rfl, rfl⟩, fun _ _ h => h⟩) (ea_cons (ev_call1 0 (ea_cons (ev_rf (i := 0) rfl) (ea_cons (ev_cb (ea_cons (ev_var (i := 2) rfl) ea_nil) (rc_lenL (f := (dU dI)))) ea_nil)) rfl ⟨_, ⟨_, _, _, _, _, q6, rfl, rfl, rfl⟩, fun _ _ h => h⟩) ea_nil)) ?_
    show Wp _ _ _ [.rf l_left, .da ((dL (dU dI)) v_one), .da ((dL (dU dI)) v_other), .da (dI t1), .da (dI t4), .un, .un] [(l_left, .ls (List.map dI c5))]
    obtain ⟨t7, q8, h0⟩ := bindS h0
    obtain ⟨t9, q10, h0⟩ := bindS h0
    obtain ⟨t11, q12, h0⟩ := bindS h0
    refine wp_asg (i := 5) (ev_call (ea_cons (ev_op (ev_var (i := 1) rfl) (ev_var (i := 3) rfl) (rr_ixL (f := (dU dI)) q8)) (ea_cons (ev_op (ev_var (i := 2) rfl) (ev_var (i := 4) rfl) (rr_ixL (f := (dU dI)) q10)) ea_nil)) ⟨_, ⟨_, _, _, q12, rfl, rfl, rfl⟩, fun _ _ h => h⟩) ?_
    show Wp _ _ _ [.rf l_left, .da ((dL (dU dI)) v_one), .da ((dL (dU dI)) v_other), .da (dI t1), .da (dI t4), .da (dI t11), .un] [(l_left, .ls (List.map dI c5))]
    obtain ⟨⟨t13, c14⟩, q15, h0⟩ := bindS h0
    obtain ⟨t16, q17, h0⟩ := bindS h0
    obtain ⟨⟨t18, c19⟩, q20, h0⟩ := bindS h0
    obtain ⟨v_some21, q22, h0⟩ := bindS h0
    refine wp_asg (i := 6) (ev_eq (f := (dL dI)) (show Ev _ _ _ _ (.da ((dL dI) ([(0 : Int), ((1 : Int) + t13), (t16 + t18)] : (List Int)))) _ from ev_lst (dl := [dI (0 : Int), dI ((1 : Int) + t13), dI (t16 + t18)]) (ea_cons (ev_int (i := 0)) (ea_cons (ev_op (ev_int (i := 1)) (ev_call1 0 (ea_cons (ev_rf (i := 0) rfl) (ea_cons (ev_int (i := 20)) ea_nil)) rfl ⟨_, ⟨_, _, _, _, _, q15, rfl, rfl, rfl⟩, fun _ _ h => h⟩) rr_i) (ea_cons (ev_op (ev_op (ev_var (i := 5) rfl) (ev_int (i := 2)) (rr_div q17)) (ev_call1 0 (ea_cons (ev_rf (i := 0) rfl) (ea_cons (ev_int (i := 3)) ea_nil)) rfl ⟨_, ⟨_, _, _, _, _, q20, rfl, rfl, rfl⟩, fun _ _ h => h⟩) rr_i) ea_nil))) (Nat.le_of_ble_eq_true rfl)) (Option.some.inj q22)) ?_
    show Wp _ _ _ [.rf l_left, .da ((dL (dU dI)) v_one), .da ((dL (dU dI)) v_other), .da (dI t1), .da (dI t4), .da (dI t11), .da ((dL dI) v_some21)] [(l_left, .ls (List.map dI c19))]
    obtain ⟨⟨t23, c24⟩, q25, h0⟩ := bindS h0
    obtain ⟨u26, q27, h0⟩ := bindS h0
    obtain ⟨v_some28, q29, h0⟩ := bindS h0
    refine wp_asg (i := 6) (ev_eq (f := (dL dI)) (ev_op (ev_var (i := 6) rfl) (show Ev _ _ _ _ (.da ((dL dI) ([t11, t23, (10000000 : Int)] : (List Int)))) _ from ev_lst (dl := [dI t11, dI t23, dI (10000000 : Int)]) (ea_cons (ev_var (i := 5) rfl) (ea_cons (ev_call1 0 (ea_cons (ev_rf (i := 0) rfl) (ea_cons (ev_op (ev_int (i := 10)) (ev_int (i := 5)) (rr_pow (k := 100000) (by decide) (by decide))) ea_nil)) rfl ⟨_, ⟨_, _, _, _, _, q25, rfl, rfl, rfl⟩, fun _ _ h => h⟩) (ea_cons (ev_op (ev_int (i := 10)) (ev_int (i := 7)) (rr_pow (k := 10000000) (by decide) (by decide))) ea_nil))) (Nat.le_of_ble_eq_true rfl)) (rr_cat q27)) (Option.some.inj q29)) ?_
    show Wp _ _ _ [.rf l_left, .da ((dL (dU dI)) v_one), .da ((dL (dU dI)) v_other), .da (dI t1), .da (dI t4), .da (dI t11), .da ((dL dI) v_some28)] [(l_left, .ls (List.map dI c24))]
    obtain ⟨⟨t30, c31⟩, q32, h0⟩ := bindS h0
    obtain ⟨t33, q34, h0⟩ := bindS h0
    have z0_ := Option.some.inj h0
    obtain ⟨e0_, e1_⟩ := Prod.mk.inj z0_
    subst e0_
    subst e1_
    exact wp_retS (ev_cb (ea_cons (ev_op (ev_int (i := 10)) (ev_int (i := 7)) (rr_pow (k := 10000000) (by decide) (by decide))) (ea_cons (ev_op (ev_var (i := 6) rfl) (ev_call1 0 (ea_cons (ev_rf (i := 0) rfl) (ea_cons (ev_int (i := 6)) ea_nil)) rfl ⟨_, ⟨_, _, _, _, _, q32, rfl, rfl, rfl⟩, fun _ _ h => h⟩) (rr_ixL (f := dI) q34)) ea_nil)) rc_min2) hfin ⟨rfl, rfl⟩ (List.Sublist.cons₂ _ (List.nil_sublist _))
end K92
set_option maxHeartbeats 2000000
namespace K92
open PySem PySem.Spec PyProof.Rows L2 Evl FC
theorem ok_m_law_cost {P : Program} {w : World} {K : PySem.W.Frag} {mg : Str → Option Value} {base : Heap} {f : Addr} {fd : FuncData} (FF : Fun K "_law_cost" "_law_cost" sm_law_cost f fd) {f_m_law_apart : Addr} {fd_m_law_apart : FuncData} (G_m_law_apart : FnOk P w K mg base CX0 1 f_m_law_apart fd_m_law_apart ["one", "other"] (spOf K (pf_m_law_apart))) (g_m_law_apart : mg "_law_apart" = some (.ref f_m_law_apart)) (k_m_law_apart : PySem.W.keepIn K (.ref f_m_law_apart) = true) (b_m_law_apart : Binds K fd_m_law_apart ["one", "other"] []) (n_len : mg "len" = none) (n_sum : mg "sum" = none) : FnOk P w K mg base CX0 2 f fd ["one", "other", "price", "pairs"] (spOf K (pf_m_law_cost)) := by
  refine ok_of (N := N_m_law_cost) FF sc_m_law_cost (fun as m R hG => ?_) (fun cdv A outer s H E hr => ?_)
  · obtain ⟨v_one, v_other, v_price, v_pairs, r_, _, rfl, _⟩ := hG
    rfl
  · have nd : (N_m_law_cost : List Str).Nodup := sc_m_law_cost.nd
    refine ⟨_, (pss_cons (ps_set (i := 4) nd rfl (Or.inl rfl) (pe_callB (kCa (r := rSum) (K := K) (cr_sum rfl) rfl) (by rfl) n_sum (by decide +kernel) (pa_cons (pe_lc (own := [("i", 6), ("j", 7)]) (g := gTup K 2 (gCons (gName 6) (gCons (gName 7) gNil))) (tt := tYes) rfl nd (kPi (r := fun K => iList K _) (K := K) (pi_list (pv 3)) rfl) (blkOk_by (own := [("i", 6), ("j", 7)]) (N := N_m_law_cost) (sc := (defScope sm_law_cost)) (by decide +kernel)) (fun _ _ _ _ _ => (pg_tup rfl (pgs_cons (pg_name (i := 6) nd rfl (by first | exact Or.inl rfl | exact Or.inr rfl)) (pgs_cons (pg_name (i := 7) nd rfl (by first | exact Or.inl rfl | exact Or.inr rfl)) pgs_nil)))) (fun _ _ _ _ _ => pts_nil) (fun _ _ _ _ _ => (pe_call G_m_law_apart (hr.mono (by decide)) (by rfl) g_m_law_apart k_m_law_apart b_m_law_apart .nil pass0 (pa_cons (pe_ix (kIx (r := rIxL) (K := K) ix_list rfl) (pv 0) (pv 6) (fun _ _ => rfl)) (pa_cons (pe_ix (kIx (r := rIxL) (K := K) ix_list rfl) (pv 1) (pv 7) (fun _ _ => rfl)) pa_nil))))) pa_nil)))
      (pss_cons (ps_set (i := 5) nd rfl (Or.inl rfl) (pe_op op_sub (pe_op op_add (pe_op op_sub (pe_callB (kCa (r := rLenA) (K := K) call_len_seq rfl) (by rfl) n_len (by decide +kernel) (pa_cons (pv 0) pa_nil)) (pe_callB (kCa (r := rLenA) (K := K) call_len_seq rfl) (by rfl) n_len (by decide +kernel) (pa_cons (pv 3) pa_nil))) (pe_callB (kCa (r := rLenA) (K := K) call_len_seq rfl) (by rfl) n_len (by decide +kernel) (pa_cons (pv 1) pa_nil))) (pe_callB (kCa (r := rLenA) (K := K) call_len_seq rfl) (by rfl) n_len (by decide +kernel) (pa_cons (pv 3) pa_nil))))
      (pss_cons (ps_ret (pe_op op_add (pv 4) (pe_op op_mulA (pv 2) (pv 5)))) pss_nil))), ?_⟩
    rintro as m R ⟨v_one, v_other, v_price, v_pairs, r_, h0, rfl, rfl, rfl⟩ F D rfl hk hfin hnx
    unfold m_law_cost at h0
    show Wp _ _ _ [.da ((dL (dU dI)) v_one), .da ((dL (dU dI)) v_other), .da (dI v_price), .da ((dL (dP dI dI)) v_pairs), .un, .un, .un, .un] []
    obtain ⟨u8, q9, h0⟩ := bindS h0
    obtain ⟨o10, q11, h0⟩ := bindS h0
    obtain ⟨v_turned12, q13, h0⟩ := bindS h0
    refine wp_asg (i := 4) (ev_eq (f := dI) (ev_cb (ea_cons (lc_end (lc_map (f2 := dI) (src_LP (f := dI) (f2 := dI) (j := 6) (k := 7) (ev_var (i := 3) rfl)) (by decide) (fun _ => True.intro) q9 q11 (by rintro ⟨v_i1, v_j1⟩ y_ hx_ h_; obtain ⟨t2, q3, h_⟩ := bindS h_; obtain ⟨t4, q5, h_⟩ := bindS h_; obtain ⟨t6, q7, h_⟩ := bindS h_; cases h_; exact (ev_call (ea_cons (ev_op (ev_var (i := 0) rfl) (ev_var (i := 6) rfl) (rr_ixL (f := (dU dI)) q3)) (ea_cons (ev_op (ev_var (i := 1) rfl) (ev_var (i := 7) rfl) (rr_ixL (f := (dU dI)) q5)) ea_nil)) ⟨_, ⟨_, _, _, q7, rfl, rfl, rfl⟩, fun _ _ h => h⟩)))) ea_nil) rc_sum) (Option.some.inj q13)) ?_
    show Wp _ _ _ [.da ((dL (dU dI)) v_one), .da ((dL (dU dI)) v_other), .da (dI v_price), .da ((dL (dP dI dI)) v_pairs), .da (dI v_turned12), .un, .un, .un] []
    obtain ⟨v_lonely14, q15, h0⟩ := bindS h0
    refine wp_asg (i := 5) (ev_eq (f := dI) (ev_op (ev_op (ev_op (ev_cb (ea_cons (ev_var (i := 0) rfl) ea_nil) (rc_lenL (f := (dU dI)))) (ev_cb (ea_cons (ev_var (i := 3) rfl) ea_nil) (rc_lenL (f := (dP dI dI)))) rr_i) (ev_cb (ea_cons (ev_var (i := 1) rfl) ea_nil) (rc_lenL (f := (dU dI)))) rr_i) (ev_cb (ea_cons (ev_var (i := 3) rfl) ea_nil) (rc_lenL (f := (dP dI dI)))) rr_i) (Option.some.inj q15)) ?_
    show Wp _ _ _ [.da ((dL (dU dI)) v_one), .da ((dL (dU dI)) v_other), .da (dI v_price), .da ((dL (dP dI dI)) v_pairs), .da (dI v_turned12), .da (dI v_lonely14), .un, .un] []
    obtain ⟨t16, q17, h0⟩ := bindS h0
    have e0_ := Option.some.inj h0
    subst e0_
    exact wp_retS (ev_op (ev_var (i := 4) rfl) (ev_op (ev_var (i := 2) rfl) (ev_var (i := 5) rfl) (rr_mul q17)) rr_i) hfin ⟨rfl, rfl⟩ (List.nil_sublist _)
end K92
set_option maxHeartbeats 2000000
namespace K92
open PySem PySem.Spec PyProof.Rows L2 Evl FC
theorem ok_m_law_all_pairs {P : Program} {w : World} {K : PySem.W.Frag} {mg : Str → Option Value} {base : Heap} {f : Addr} {fd : FuncData} (FF : Fun K "_law_all_pairs" "_law_all_pairs" sm_law_all_pairs f fd) (n_list : mg "list" = none) (n_range : mg "range" = none) : FnOk P w K mg base CX0 1 f fd ["many", "others"] (spOf K (pf_m_law_all_pairs)) := by
  refine ok_of (N := N_m_law_all_pairs) FF sc_m_law_all_pairs (fun as m R hG => ?_) (fun cdv A outer s H E hr => ?_)
  · obtain ⟨v_many, v_others, r_, _, rfl, _⟩ := hG
    rfl
  · have nd : (N_m_law_all_pairs : List Str).Nodup := sc_m_law_all_pairs.nd
    refine ⟨_, (pss_cons (ps_set (i := 2) nd rfl (Or.inl rfl) (pe_lst (pa_cons (pe_lst pa_nil) pa_nil)))
      (pss_cons (ps_for PassesOwn.never rfl (pi_range1 (by rfl) n_range (pa_cons (pv 0) pa_nil)) (pg_name (i := 3) nd rfl (by first | exact Or.inl rfl | exact Or.inr rfl))
      (pss_cons (ps_for PassesOwn.never rfl (kPi (r := fun K => iList K _) (K := K) (pi_list (pe_callTy (kCa (r := rListOf) (K := K) call_list_of rfl) (by rfl) n_list (by decide +kernel) (pa_cons (pv 2) pa_nil))) rfl) (pg_name (i := 4) nd rfl (by first | exact Or.inl rfl | exact Or.inr rfl))
      (pss_cons (ps_set (i := 5) nd rfl (Or.inr rfl) (pe_lc (own := [("k", 6), ("j", 7)]) (g := gTup K 2 (gCons (gName 6) (gCons (gName 7) gNil))) (tt := tYes) rfl nd (kPi (r := fun K => iList K _) (K := K) (pi_list (pv 4)) rfl) (blkOk_by (own := [("k", 6), ("j", 7)]) (N := N_m_law_all_pairs) (sc := (defScope sm_law_all_pairs)) (by decide +kernel)) (fun _ _ _ _ _ => (pg_tup rfl (pgs_cons (pg_name (i := 6) nd rfl (by first | exact Or.inl rfl | exact Or.inr rfl)) (pgs_cons (pg_name (i := 7) nd rfl (by first | exact Or.inl rfl | exact Or.inr rfl)) pgs_nil)))) (fun _ _ _ _ _ => pts_nil) (fun _ _ _ _ _ => (pv 7))))
      (pss_cons (ps_expr (pe_bm PySem.F.plainAttrs_list PySem.F.slot_list_extend PySem.F.type_list_extend mt_extend (pv 2) (pa_cons (pe_lc (own := [("j", 7)]) (g := gName 7) rfl nd (pi_range1 (by rfl) n_range (pa_cons (pv 1) pa_nil)) (blkOk_by (own := [("j", 7)]) (N := N_m_law_all_pairs) (sc := (defScope sm_law_all_pairs)) (by decide +kernel)) (fun _ _ _ _ _ => (pg_name (i := 7) nd rfl (by first | exact Or.inl rfl | exact Or.inr rfl))) (fun _ _ _ _ _ => pts_one (pt_cmpR (kOp (r := fun K => rInP K true) (K := K) (op_notInP (hu65 hr)) rfl) (pv 7) (pv 5) (by rfl))) (fun _ _ _ _ _ => (pe_op op_cat (pv 4) (pe_lst (pa_cons (pe_tup (pa_cons (pv 3) (pa_cons (pv 7) pa_nil))) pa_nil))))) pa_nil)))
      pss_nil)))
      pss_nil))
      (pss_cons (ps_ret (pv 2)) pss_nil))), ?_⟩
    rintro as m R ⟨v_many, v_others, r_, h0, rfl, rfl, rfl⟩ F D rfl hk hfin hnx
    unfold m_law_all_pairs at h0
    show Wp _ _ _ [.da (dI v_many), .da (dI v_others), .un, .un, .un, .un, .un, .un] []
    refine wp_asgN (i := 2) (show EvN _ _ _ _ (.ls (List.map (dL (dP dI dI)) ([([] : (List (Int × Int)))] : (List (List (Int × Int)))))) _ from en_lst (dl := [(dL (dP dI dI)) ([] : (List (Int × Int)))]) (ea_cons (show Ev _ _ _ _ (.da ((dL (dP dI dI)) ([] : (List (Int × Int))))) _ from ev_lst (dl := []) ea_nil (Nat.le_of_ble_eq_true rfl)) ea_nil) (Nat.le_of_ble_eq_true rfl)) (fun l_1 nk_l_1 => ?_) rfl
    show Wp _ _ _ [.da (dI v_many), .da (dI v_others), .rf l_1, .un, .un, .un, .un, .un] [(l_1, .ls (List.map (dL (dP dI dI)) ([([] : (List (Int × Int)))] : (List (List (Int × Int))))))]
    obtain ⟨rg2, q3, h0⟩ := bindS h0
    obtain ⟨c78, q79, h0⟩ := bindS h0
    refine wp_forF (fun (s_ : (List (List (Int × Int)))) => [.da (dI v_many), .da (dI v_others), .rf l_1, .un, .un, .un, .un, .un]) (fun (s_ : (List (List (Int × Int)))) => [(l_1, .ls (List.map (dL (dP dI dI)) s_))]) (src_R1 (j := 3) (ea_cons (ev_var (i := 0) rfl) ea_nil) q3) q79 (.cons .rfl (.cons .rfl (.cons .rfl (.cons .un (.cons .un (.cons .un (.cons .un (.cons .un Wks.nil)))))))) rfl (fun _ => True.intro) ?_ ?_
    · rintro lo1 c5 v_i4 s_ hx1 h1 D1 he1 hn1 hct1
      show Wp _ _ _ [.da (dI v_many), .da (dI v_others), .rf l_1, .da (dI v_i4), .un, .un, .un, .un] [(l_1, .ls (List.map (dL (dP dI dI)) c5))]
      obtain ⟨c76, q77, h1⟩ := bindS h1
      refine wp_forF (fun (s_ : (List (List (Int × Int)))) => [.da (dI v_many), .da (dI v_others), .rf l_1, .da (dI v_i4), .un, .un, .un, .un]) (fun (s_ : (List (List (Int × Int)))) => [(l_1, .ls (List.map (dL (dP dI dI)) s_))]) (src_L (f := (dL (dP dI dI))) (j := 4) (ev_cb (ea_cons (ev_rf (i := 2) rfl) ea_nil) (rc_listC (f := (dL (dP dI dI))) 0 rfl))) q77 (.cons .rfl (.cons .rfl (.cons .rfl (.cons .rfl (.cons .un (.cons .un (.cons .un (.cons .un Wks.nil)))))))) rfl (fun _ => True.intro) ?_ ?_
      · rintro lo2 c43 v_pairs42 s_ hx2 h2 D2 he2 hn2 hct2
        show Wp _ _ _ [.da (dI v_many), .da (dI v_others), .rf l_1, .da (dI v_i4), .da ((dL (dP dI dI)) v_pairs42), .un, .un, .un] [(l_1, .ls (List.map (dL (dP dI dI)) c43))]
        obtain ⟨u61, q62, h2⟩ := bindS h2
        obtain ⟨v_taken63, q64, h2⟩ := bindS h2
        refine wp_asg (i := 5) (ev_eq (f := (dL dI)) (lc_end (lc_map (f2 := dI) (step := fun x => some ((fun (p_ : (Int × Int)) => (fun (v_k60 : Int) (v_j60 : Int) => v_j60) p_.1 p_.2) x)) (src_LP (f := dI) (f2 := dI) (j := 6) (k := 7) (ev_var (i := 4) rfl)) (by decide) (fun _ => True.intro) q62 (mapO_pure _) (by rintro ⟨v_k60, v_j60⟩ y_ hx_ h_; cases h_; exact (ev_var (i := 7) rfl)))) (Option.some.inj q64)) ?_
        show Wp _ _ _ [.da (dI v_many), .da (dI v_others), .rf l_1, .da (dI v_i4), .da ((dL (dP dI dI)) v_pairs42), .da ((dL dI) v_taken63), .un, .un] [(l_1, .ls (List.map (dL (dP dI dI)) c43))]
        obtain ⟨rg65, q66, h2⟩ := bindS h2
        obtain ⟨u70, q71, h2⟩ := bindS h2
        obtain ⟨o72, q73, h2⟩ := bindS h2
        obtain ⟨u74, q75, h2⟩ := bindS h2
        refine wp_expr (ev_bm (ev_rf (i := 2) rfl) (j := 0) rfl (ea_cons (lc_end (lc_fil (f2 := (dL (dP dI dI))) (test := (fun (v_j67 : Int) => (!memB v_j67 v_taken63))) (src_R1 (j := 7) (ea_cons (ev_var (i := 1) rfl) ea_nil) q66) (by decide) (fun _ => True.intro) q71 q73 (by rintro v_j67 hx_; exact (et_test (ev_op (ev_var (i := 7) rfl) (ev_var (i := 5) rfl) (rr_notIn (f := dI) (by decide))))) (by rintro v_j67 y_ hx_ hb_ h_; obtain ⟨u68, q69, h_⟩ := bindS h_; cases h_; exact (ev_op (ev_var (i := 4) rfl) (show Ev _ _ _ _ (.da ((dL (dP dI dI)) ([(v_i4, v_j67)] : (List (Int × Int))))) _ from ev_lst (dl := [(dP dI dI) (v_i4, v_j67)]) (ea_cons (show Ev _ _ _ _ (.da ((dP dI dI) (v_i4, v_j67))) _ from ev_tup (dl := [dI v_i4, dI v_j67]) (ea_cons (ev_var (i := 3) rfl) (ea_cons (ev_var (i := 7) rfl) ea_nil)) (Nat.le_of_ble_eq_true rfl)) ea_nil) (Nat.le_of_ble_eq_true rfl)) (rr_cat q69))))) ea_nil) (rm_ext (f := (dL (dP dI dI))) 0 rfl q75)) ?_
        show Wp _ _ _ [.da (dI v_many), .da (dI v_others), .rf l_1, .da (dI v_i4), .da ((dL (dP dI dI)) v_pairs42), .da ((dL dI) v_taken63), .un, .un] [(l_1, .ls (List.map (dL (dP dI dI)) (c43 ++ o72)))]
        cases h2
        exact wp_next fun σ H a => hn2 σ H (at_weak (.cons .rfl (.cons .rfl (.cons .rfl (.cons .rfl (.cons .un (.cons .un (.cons .un (.cons .un Wks.nil)))))))) a)
      · show Wp _ _ _ [.da (dI v_many), .da (dI v_others), .rf l_1, .da (dI v_i4), .un, .un, .un, .un] [(l_1, .ls (List.map (dL (dP dI dI)) c76))]
        cases h1
        exact wp_next fun σ H a => hn1 σ H (at_weak (.cons .rfl (.cons .rfl (.cons .rfl (.cons .un (.cons .un (.cons .un (.cons .un (.cons .un Wks.nil)))))))) a)
    · show Wp _ _ _ [.da (dI v_many), .da (dI v_others), .rf l_1, .un, .un, .un, .un, .un] [(l_1, .ls (List.map (dL (dP dI dI)) c78))]
      refine wp_frz (i := 2) (j := 0) (l := l_1) rfl rfl nk_l_1 ?_
      show Wp _ _ _ [.da (dI v_many), .da (dI v_others), .da ((dL (dL (dP dI dI))) c78), .un, .un, .un, .un, .un] []
      have e0_ := Option.some.inj h0
      subst e0_
      exact wp_retS (ev_var (i := 2) rfl) hfin ⟨rfl, rfl⟩ (List.nil_sublist _)
end K92
set_option maxHeartbeats 2000000
namespace K92
open PySem PySem.Spec PyProof.Rows L2 Evl FC
theorem ok_m_law_drawn {P : Program} {w : World} {K : PySem.W.Frag} {mg : Str → Option Value} {base : Heap} {f : Addr} {fd : FuncData} (FF : Fun K "_law_drawn" "_law_drawn" sm_law_drawn f fd) {f_m_law_apart : Addr} {fd_m_law_apart : FuncData} (G_m_law_apart : FnOk P w K mg base CX0 1 f_m_law_apart fd_m_law_apart ["one", "other"] (spOf K (pf_m_law_apart))) (g_m_law_apart : mg "_law_apart" = some (.ref f_m_law_apart)) (k_m_law_apart : PySem.W.keepIn K (.ref f_m_law_apart) = true) (b_m_law_apart : Binds K fd_m_law_apart ["one", "other"] []) {f_m_law_pick : Addr} {fd_m_law_pick : FuncData} (G_m_law_pick : FnOk P w K mg base CX0 2 f_m_law_pick fd_m_law_pick ["left", "many"] (spOf K (pf_m_law_pick))) (g_m_law_pick : mg "_law_pick" = some (.ref f_m_law_pick)) (k_m_law_pick : PySem.W.keepIn K (.ref f_m_law_pick) = true) (b_m_law_pick : Binds K fd_m_law_pick ["left", "many"] []) (n_enumerate : mg "enumerate" = none) (n_len : mg "len" = none) (n_list : mg "list" = none) (n_min : mg "min" = none) (n_range : mg "range" = none) : FnOk P w K mg base CX0 3 f fd ["left", "one", "other", "price", "paper"] (spOf K (pf_m_law_drawn)) := by
  refine ok_of (N := N_m_law_drawn) FF sc_m_law_drawn (fun as m R hG => ?_) (fun cdv A outer s H E hr => ?_)
  · obtain ⟨l_left, v_left, v_one, v_other, v_price, v_paper, r_, w_left, _, rfl, _⟩ := hG
    rfl
  · have nd : (N_m_law_drawn : List Str).Nodup := sc_m_law_drawn.nd
    refine ⟨_, (pss_cons (ps_asg (pe_tup (pa_cons (pe_callTy (kCa (r := rListOf) (K := K) call_list_of rfl) (by rfl) n_list (by decide +kernel) (pa_cons (pe_ix (kIx (r := rIxT) (K := K) ix_tup rfl) (pv 4) pe_int (fun _ _ => rfl)) pa_nil)) (pa_cons (pe_callTy (kCa (r := rListOf) (K := K) call_list_of rfl) (by rfl) n_list (by decide +kernel) (pa_cons (pe_ix (kIx (r := rIxT) (K := K) ix_tup rfl) (pv 4) pe_int (fun _ _ => rfl)) pa_nil)) pa_nil))) (pg_tup rfl (pgs_cons (pg_name (i := 5) nd rfl (Or.inl rfl)) (pgs_cons (pg_name (i := 6) nd rfl (Or.inr rfl)) pgs_nil))))
      (pss_cons (ps_if (pt_cmpR op_eq (pe_call G_m_law_pick (hr.mono (by decide)) (by rfl) g_m_law_pick k_m_law_pick b_m_law_pick .nil pass0 (pa_cons (pv 0) (pa_cons pe_int pa_nil))) pe_int (nomark _)) (pss_cons (ps_setLc (i := 5) (own := [("colour", 7)]) (g := gName 7) (tt := tYes) rfl nd rfl rfl (sw_true rfl rfl rfl (by decide +kernel)) (kPi (r := fun K => iList K _) (K := K) (pi_list (pv 1)) rfl) (blkOk_by (own := [("colour", 7)]) (N := N_m_law_drawn) (sc := (defScope sm_law_drawn)) (by decide +kernel)) (fun _ _ _ _ _ => (pg_name (i := 7) nd rfl (by first | exact Or.inl rfl | exact Or.inr rfl))) (fun _ _ _ _ _ => pts_nil) (fun _ _ _ _ _ => (pe_op op_sub (pe_call G_m_law_pick (hr.mono (by decide)) (by rfl) g_m_law_pick k_m_law_pick b_m_law_pick .nil pass0 (pa_cons (pv 0) (pa_cons (pe_op op_add (pv 3) pe_int) pa_nil))) pe_int)))
      (pss_cons (ps_set (i := 6) nd rfl (Or.inr rfl) (pe_lc (own := [("colour", 7)]) (g := gName 7) (tt := tYes) rfl nd (kPi (r := fun K => iList K _) (K := K) (pi_list (pv 2)) rfl) (blkOk_by (own := [("colour", 7)]) (N := N_m_law_drawn) (sc := (defScope sm_law_drawn)) (by decide +kernel)) (fun _ _ _ _ _ => (pg_name (i := 7) nd rfl (by first | exact Or.inl rfl | exact Or.inr rfl))) (fun _ _ _ _ _ => pts_nil) (fun _ _ _ _ _ => (pe_op op_sub (pe_call G_m_law_pick (hr.mono (by decide)) (by rfl) g_m_law_pick k_m_law_pick b_m_law_pick .nil pass0 (pa_cons (pv 0) (pa_cons (pe_op op_add (pv 3) pe_int) pa_nil))) pe_int))))
      pss_nil)) pss_nil)
      (pss_cons (ps_for PassesOwn.never rfl (pi_range1 (by rfl) n_range (pa_cons (pe_call G_m_law_pick (hr.mono (by decide)) (by rfl) g_m_law_pick k_m_law_pick b_m_law_pick .nil pass0 (pa_cons (pv 0) (pa_cons pe_int pa_nil))) pa_nil)) (pg_name (i := 8) nd rfl (by first | exact Or.inl rfl | exact Or.inr rfl))
      (pss_cons (ps_par3 (i := 9) (j := 10) (l := 11) rfl nd rfl rfl rfl (by decide) (by decide) (by decide) rfl rfl rfl (pa_cons (pe_call G_m_law_pick (hr.mono (by decide)) (by rfl) g_m_law_pick k_m_law_pick b_m_law_pick .nil pass0 (pa_cons (pv 0) (pa_cons (pe_callB (kCa (r := rLenA) (K := K) call_len_seq rfl) (by rfl) n_len (by decide +kernel) (pa_cons (pv 5) pa_nil)) pa_nil))) (pa_cons (pe_call G_m_law_pick (hr.mono (by decide)) (by rfl) g_m_law_pick k_m_law_pick b_m_law_pick .nil pass0 (pa_cons (pv 0) (pa_cons (pe_callB (kCa (r := rLenA) (K := K) call_len_seq rfl) (by rfl) n_len (by decide +kernel) (pa_cons (pv 6) pa_nil)) pa_nil))) (pa_cons (pe_ix (kIx (r := rIxL) (K := K) ix_list rfl) (pe_lst (pa_cons pe_int (pa_cons (pe_un un_neg pe_int) (pa_cons pe_int (pa_cons (pe_un un_neg pe_int) pa_nil))))) (pe_call G_m_law_pick (hr.mono (by decide)) (by rfl) g_m_law_pick k_m_law_pick b_m_law_pick .nil pass0 (pa_cons (pv 0) (pa_cons pe_int pa_nil))) (fun _ _ => rfl)) pa_nil))) (by rfl))
      (pss_cons (ps_asg (pe_tup (pa_cons (pe_op op_add (pe_ix (kIx (r := rIxL) (K := K) ix_list rfl) (pv 5) (pv 9) (fun _ _ => rfl)) (pv 11)) (pa_cons (pe_op op_sub (pe_ix (kIx (r := rIxL) (K := K) ix_list rfl) (pv 6) (pv 10) (fun _ _ => rfl)) (pe_ix (kIx (r := rIxL) (K := K) ix_list rfl) (pe_lst (pa_cons (pv 11) (pa_cons pe_int pa_nil))) (pe_call G_m_law_pick (hr.mono (by decide)) (by rfl) g_m_law_pick k_m_law_pick b_m_law_pick .nil pass0 (pa_cons (pv 0) (pa_cons pe_int pa_nil))) (fun _ _ => rfl))) pa_nil))) (pg_tup rfl (pgs_cons (pg_sub (pv 5) (pv 9) set_list) (pgs_cons (pg_sub (pv 6) (pv 10) set_list) pgs_nil))))
      pss_nil)))
      (pss_cons (ps_if (pt_cmpR op_eq (pe_call G_m_law_pick (hr.mono (by decide)) (by rfl) g_m_law_pick k_m_law_pick b_m_law_pick .nil pass0 (pa_cons (pv 0) (pa_cons pe_int pa_nil))) pe_int (nomark _)) (pss_cons (ps_set (i := 6) nd rfl (Or.inr rfl) (pe_lc (own := [("number", 12)]) (g := gName 12) (tt := tYes) rfl nd (kPi (r := fun K => iList K _) (K := K) (pi_list (pv 6)) rfl) (blkOk_by (own := [("number", 12)]) (N := N_m_law_drawn) (sc := (defScope sm_law_drawn)) (by decide +kernel)) (fun _ _ _ _ _ => (pg_name (i := 12) nd rfl (by first | exact Or.inl rfl | exact Or.inr rfl))) (fun _ _ _ _ _ => pts_nil) (fun _ _ _ _ _ => (pe_callB (call_min2 rfl) (by rfl) n_min (by decide +kernel) (pa_cons (pv 12) (pa_cons (pv 3) pa_nil))))))
      (pss_cons (ps_for PassesOwn.never rfl (kPi (r := fun K => iEnum K _) (K := K) (pi_enum (by rfl) n_enumerate (pa_cons (pv 1) pa_nil)) rfl) (pg_tup rfl (pgs_cons (pg_name (i := 9) nd rfl (by first | exact Or.inl rfl | exact Or.inr rfl)) (pgs_cons (pg_name (i := 7) nd rfl (by first | exact Or.inl rfl | exact Or.inr rfl)) pgs_nil)))
      (pss_cons (ps_asg (pe_callB (kCa (r := rMinP) (K := K) (cr_minP rfl hr.units) rfl) (by rfl) n_min (by decide +kernel) (pa_cons (pe_op op_cat (pe_lst (pa_cons (pe_ix (kIx (r := rIxL) (K := K) ix_list rfl) (pv 5) (pv 9) (fun _ _ => rfl)) (pa_cons (pv 3) pa_nil))) (pe_lc (own := [("j", 10)]) (g := gName 10) (tt := tYes) rfl nd (pi_range1 (by rfl) n_range (pa_cons (pe_callB (kCa (r := rLenA) (K := K) call_len_seq rfl) (by rfl) n_len (by decide +kernel) (pa_cons (pv 2) pa_nil)) pa_nil)) (blkOk_by (own := [("j", 10)]) (N := N_m_law_drawn) (sc := (defScope sm_law_drawn)) (by decide +kernel)) (fun _ _ _ _ _ => (pg_name (i := 10) nd rfl (by first | exact Or.inl rfl | exact Or.inr rfl))) (fun _ _ _ _ _ => pts_nil) (fun _ _ _ _ _ => (pe_op op_sub (pe_call G_m_law_apart (hr.mono (by decide)) (by rfl) g_m_law_apart k_m_law_apart b_m_law_apart .nil pass0 (pa_cons (pv 7) (pa_cons (pe_ix (kIx (r := rIxL) (K := K) ix_list rfl) (pv 2) (pv 10) (fun _ _ => rfl)) pa_nil))) (pe_ix (kIx (r := rIxL) (K := K) ix_list rfl) (pv 6) (pv 10) (fun _ _ => rfl)))))) pa_nil)) (pg_sub (pv 5) (pv 9) set_list))
      pss_nil))
      pss_nil)) pss_nil)
      (pss_cons (ps_ret (pe_tup (pa_cons (pv 5) (pa_cons (pv 6) pa_nil)))) pss_nil))))), ?_⟩
    rintro as m R ⟨l_left, v_left, v_one, v_other, v_price, v_paper, r_, w_left, h0, rfl, rfl, rfl⟩ F D rfl hk hfin hnx
    unfold m_law_drawn at h0
    show Wp _ _ _ [.rf l_left, .da ((dL (dU dI)) v_one), .da ((dL (dU dI)) v_other), .da (dI v_price), .da ((dP (dL dI) (dL dI)) v_paper), .un, .un, .un, .un, .un, .un, .un, .un] [(l_left, .ls (List.map dI v_left))]
    refine wp_unpG (ra := (fun a_ : Addr × Addr => (Sum.inr a_.1 : PyData ⊕ Addr))) (rb := (fun a_ : Addr × Addr => (Sum.inr a_.2 : PyData ⊕ Addr))) (i := 5) (j := 6) (eg_tup2 (p1 := fun a : Addr => a) (p2 := fun a : Addr => a) (eg_new (en_cb (ea_cons (ev_op (ev_var (i := 4) rfl) (ev_int (i := 0)) (rr_ixT (dl := [(dL dI) (v_paper).1, (dL dI) (v_paper).2]) rfl)) ea_nil) (rcn_listL (f := dI)))) (fun _ _ _ => (eg_new (en_cb (ea_cons (ev_op (ev_var (i := 4) rfl) (ev_int (i := 1)) (rr_ixT (dl := [(dL dI) (v_paper).1, (dL dI) (v_paper).2]) rfl)) ea_nil) (rcn_listL (f := dI)))))) ?_ rfl
    rintro ⟨l_1, l_2⟩ _ ⟨_, _, rfl, rfl, rfl⟩ nk_3
    have nk_l_1 : l_1 ∉ F.k0 := nk_3 _ (by simp)
    have nk_l_2 : l_2 ∉ F.k0 := nk_3 _ (by simp)
    show Wp _ _ _ [.rf l_left, .da ((dL (dU dI)) v_one), .da ((dL (dU dI)) v_other), .da (dI v_price), .da ((dP (dL dI) (dL dI)) v_paper), .rf l_1, .rf l_2, .un, .un, .un, .un, .un, .un] [(l_left, .ls (List.map dI v_left)), (l_1, .ls (List.map dI (v_paper).1)), (l_2, .ls (List.map dI (v_paper).2))]
    obtain ⟨⟨t4, c5⟩, q6, h0⟩ := bindS h0
    refine wp_if (et_test (ev_op (ev_call1 0 (ea_cons (ev_rf (i := 0) rfl) (ea_cons (ev_int (i := 3)) ea_nil)) rfl ⟨_, ⟨_, _, _, _, _, q6, rfl, rfl, rfl⟩, fun _ _ h => h⟩) (ev_int (i := 0)) rr_eqI)) (fun hc => ?_) (fun hc => ?_)
    · have h0 := condT hc h0
      obtain ⟨u12, q13, h0⟩ := bindS h0
      obtain ⟨⟨o15, c14⟩, q20, h0⟩ := bindS h0
      refine wp_asgN (i := 5) (en_end (lc_mapS (f2 := dI) (fun (s_ : (List Int)) => [(l_left, .ls (List.map dI s_)), (l_1, .ls (List.map dI (v_paper).1)), (l_2, .ls (List.map dI (v_paper).2))]) (src_L (f := (dU dI)) (j := 7) (ev_var (i := 1) rfl)) rfl (by decide) (fun _ => (fun _ => True.intro)) q13 q20 (by rintro s16 v_colour8 y_ s_ hx_ h_; obtain ⟨⟨t17, c18⟩, q19, h_⟩ := bindS h_; cases h_; exact (ev_op (ev_call1 0 (ea_cons (ev_rf (i := 0) rfl) (ea_cons (ev_op (ev_var (i := 3) rfl) (ev_int (i := 50)) rr_i) ea_nil)) rfl ⟨_, ⟨_, _, _, _, _, q19, rfl, rfl, rfl⟩, fun _ _ h => h⟩) (ev_int (i := 40)) rr_i)))) (fun l_7 nk_l_7 => ?_) rfl
      show Wp _ _ _ [.rf l_left, .da ((dL (dU dI)) v_one), .da ((dL (dU dI)) v_other), .da (dI v_price), .da ((dP (dL dI) (dL dI)) v_paper), .rf l_7, .rf l_2, .un, .un, .un, .un, .un, .un] [(l_left, .ls (List.map dI c14)), (l_1, .ls (List.map dI (v_paper).1)), (l_2, .ls (List.map dI (v_paper).2)), (l_7, .ls (List.map dI o15))]
      obtain ⟨u26, q27, h0⟩ := bindS h0
      obtain ⟨⟨o29, c28⟩, q34, h0⟩ := bindS h0
      refine wp_asgN (i := 6) (en_end (lc_mapS (f2 := dI) (fun (s_ : (List Int)) => [(l_left, .ls (List.map dI s_)), (l_1, .ls (List.map dI (v_paper).1)), (l_2, .ls (List.map dI (v_paper).2)), (l_7, .ls (List.map dI o15))]) (src_L (f := (dU dI)) (j := 7) (ev_var (i := 2) rfl)) rfl (by decide) (fun _ => (fun _ => True.intro)) q27 q34 (by rintro s30 v_colour22 y_ s_ hx_ h_; obtain ⟨⟨t31, c32⟩, q33, h_⟩ := bindS h_; cases h_; exact (ev_op (ev_call1 0 (ea_cons (ev_rf (i := 0) rfl) (ea_cons (ev_op (ev_var (i := 3) rfl) (ev_int (i := 50)) rr_i) ea_nil)) rfl ⟨_, ⟨_, _, _, _, _, q33, rfl, rfl, rfl⟩, fun _ _ h => h⟩) (ev_int (i := 40)) rr_i)))) (fun l_21 nk_l_21 => ?_) rfl
      show Wp _ _ _ [.rf l_left, .da ((dL (dU dI)) v_one), .da ((dL (dU dI)) v_other), .da (dI v_price), .da ((dP (dL dI) (dL dI)) v_paper), .rf l_7, .rf l_21, .un, .un, .un, .un, .un, .un] [(l_left, .ls (List.map dI c28)), (l_1, .ls (List.map dI (v_paper).1)), (l_2, .ls (List.map dI (v_paper).2)), (l_7, .ls (List.map dI o15)), (l_21, .ls (List.map dI o29))]
      refine wp_next ?_
      obtain ⟨⟨t35, c36⟩, q37, h0⟩ := bindS h0
      obtain ⟨rg38, q39, h0⟩ := bindS h0
      obtain ⟨⟨c121, c122, c123⟩, q205, h0⟩ := bindS h0
      refine wp_forF (fun (s_ : (List Int) × (List Int) × (List Int)) => [.rf l_left, .da ((dL (dU dI)) v_one), .da ((dL (dU dI)) v_other), .da (dI v_price), .da ((dP (dL dI) (dL dI)) v_paper), .rf l_7, .rf l_21, .un, .un, .un, .un, .un, .un]) (fun (s_ : (List Int) × (List Int) × (List Int)) => [(l_left, .ls (List.map dI s_.1)), (l_1, .ls (List.map dI (v_paper).1)), (l_2, .ls (List.map dI (v_paper).2)), (l_7, .ls (List.map dI s_.2.1)), (l_21, .ls (List.map dI s_.2.2))]) (src_R1 (j := 8) (ea_cons (ev_call1 0 (ea_cons (ev_rf (i := 0) rfl) (ea_cons (ev_int (i := 4)) ea_nil)) rfl ⟨_, ⟨_, _, _, _, _, q37, rfl, rfl, rfl⟩, fun _ _ h => h⟩) ea_nil) q39) q205 (.cons .rfl (.cons .rfl (.cons .rfl (.cons .rfl (.cons .rfl (.cons .rfl (.cons .rfl (.cons .un (.cons .un (.cons .un (.cons .un (.cons .un (.cons .un Wks.nil))))))))))))) rfl (fun _ => True.intro) ?_ ?_
      · rintro lo1 ⟨c70, c71, c72⟩ v_turn40 s_ hx1 h1 D1 he1 hn1 hct1
        show Wp _ _ _ [.rf l_left, .da ((dL (dU dI)) v_one), .da ((dL (dU dI)) v_other), .da (dI v_price), .da ((dP (dL dI) (dL dI)) v_paper), .rf l_7, .rf l_21, .un, .da (dI v_turn40), .un, .un, .un, .un] [(l_left, .ls (List.map dI c70)), (l_1, .ls (List.map dI (v_paper).1)), (l_2, .ls (List.map dI (v_paper).2)), (l_7, .ls (List.map dI c71)), (l_21, .ls (List.map dI c72))]
        obtain ⟨⟨t97, c98⟩, q99, h1⟩ := bindS h1
        obtain ⟨⟨t100, c101⟩, q102, h1⟩ := bindS h1
        obtain ⟨⟨t103, c104⟩, q105, h1⟩ := bindS h1
        obtain ⟨t106, q107, h1⟩ := bindS h1
        refine wp_par3 (i := 9) (j := 10) (l := 11) (ea_cons (ev_call1 0 (ea_cons (ev_rf (i := 0) rfl) (ea_cons (ev_cb (ea_cons (ev_rf (i := 5) rfl) ea_nil) (rc_lenC (f := dI) 3 rfl)) ea_nil)) rfl ⟨_, ⟨_, _, _, _, _, q99, rfl, rfl, rfl⟩, fun _ _ h => h⟩) (ea_cons (ev_call1 0 (ea_cons (ev_rf (i := 0) rfl) (ea_cons (ev_cb (ea_cons (ev_rf (i := 6) rfl) ea_nil) (rc_lenC (f := dI) 4 rfl)) ea_nil)) rfl ⟨_, ⟨_, _, _, _, _, q102, rfl, rfl, rfl⟩, fun _ _ h => h⟩) (ea_cons (ev_op (show Ev _ _ _ _ (.da ((dL dI) ([(1 : Int), (-(1 : Int)), (3 : Int), (-(10 : Int))] : (List Int)))) _ from ev_lst (dl := [dI (1 : Int), dI (-(1 : Int)), dI (3 : Int), dI (-(10 : Int))]) (ea_cons (ev_int (i := 1)) (ea_cons (ev_un (ev_int (i := 1)) ru_neg) (ea_cons (ev_int (i := 3)) (ea_cons (ev_un (ev_int (i := 10)) ru_neg) ea_nil)))) (Nat.le_of_ble_eq_true rfl)) (ev_call1 0 (ea_cons (ev_rf (i := 0) rfl) (ea_cons (ev_int (i := 4)) ea_nil)) rfl ⟨_, ⟨_, _, _, _, _, q105, rfl, rfl, rfl⟩, fun _ _ h => h⟩) (rr_ixL (f := dI) q107)) ea_nil))) ?_
        show Wp _ _ _ [.rf l_left, .da ((dL (dU dI)) v_one), .da ((dL (dU dI)) v_other), .da (dI v_price), .da ((dP (dL dI) (dL dI)) v_paper), .rf l_7, .rf l_21, .un, .da (dI v_turn40), .da (dI t97), .da (dI t100), .da (dI t106), .un] [(l_left, .ls (List.map dI c104)), (l_1, .ls (List.map dI (v_paper).1)), (l_2, .ls (List.map dI (v_paper).2)), (l_7, .ls (List.map dI c71)), (l_21, .ls (List.map dI c72))]
        obtain ⟨t108, q109, h1⟩ := bindS h1
        obtain ⟨t110, q111, h1⟩ := bindS h1
        obtain ⟨⟨t112, c113⟩, q114, h1⟩ := bindS h1
        obtain ⟨t115, q116, h1⟩ := bindS h1
        obtain ⟨c117, q118, h1⟩ := bindS h1
        obtain ⟨c119, q120, h1⟩ := bindS h1
        refine wp_set2 (k := dI) (k2 := dI) (m2 := [(l_left, .ls (List.map dI c113)), (l_1, .ls (List.map dI (v_paper).1)), (l_2, .ls (List.map dI (v_paper).2)), (l_7, .ls (List.map dI c117)), (l_21, .ls (List.map dI c72))]) 3 4 (show Ev _ _ _ _ (.da ((dP dI dI) ((t108 + t106), (t110 - t115)))) _ from ev_tup (dl := [dI (t108 + t106), dI (t110 - t115)]) (ea_cons (ev_op (ev_op (ev_rf (i := 5) rfl) (ev_var (i := 9) rfl) (rr_ixC (f := dI) 3 rfl q109)) (ev_var (i := 11) rfl) rr_i) (ea_cons (ev_op (ev_op (ev_rf (i := 6) rfl) (ev_var (i := 10) rfl) (rr_ixC (f := dI) 4 rfl q111)) (ev_op (show Ev _ _ _ _ (.da ((dL dI) ([t106, (0 : Int)] : (List Int)))) _ from ev_lst (dl := [dI t106, dI (0 : Int)]) (ea_cons (ev_var (i := 11) rfl) (ea_cons (ev_int (i := 0)) ea_nil)) (Nat.le_of_ble_eq_true rfl)) (ev_call1 0 (ea_cons (ev_rf (i := 0) rfl) (ea_cons (ev_int (i := 2)) ea_nil)) rfl ⟨_, ⟨_, _, _, _, _, q114, rfl, rfl, rfl⟩, fun _ _ h => h⟩) (rr_ixL (f := dI) q116)) rr_i) ea_nil)) (Nat.le_of_ble_eq_true rfl)) (ev_rf (i := 5) rfl) (ev_var (i := 9) rfl) rfl q118 rfl (ev_rf (i := 6) rfl) (ev_var (i := 10) rfl) rfl q120 ?_
        show Wp _ _ _ [.rf l_left, .da ((dL (dU dI)) v_one), .da ((dL (dU dI)) v_other), .da (dI v_price), .da ((dP (dL dI) (dL dI)) v_paper), .rf l_7, .rf l_21, .un, .da (dI v_turn40), .da (dI t97), .da (dI t100), .da (dI t106), .un] [(l_left, .ls (List.map dI c113)), (l_1, .ls (List.map dI (v_paper).1)), (l_2, .ls (List.map dI (v_paper).2)), (l_7, .ls (List.map dI c117)), (l_21, .ls (List.map dI c119))]
        cases h1
        exact wp_next fun σ H a => hn1 σ H (at_weak (.cons .rfl (.cons .rfl (.cons .rfl (.cons .rfl (.cons .rfl (.cons .rfl (.cons .rfl (.cons .un (.cons .un (.cons .un (.cons .un (.cons .un (.cons .un Wks.nil))))))))))))) a)
      · show Wp _ _ _ [.rf l_left, .da ((dL (dU dI)) v_one), .da ((dL (dU dI)) v_other), .da (dI v_price), .da ((dP (dL dI) (dL dI)) v_paper), .rf l_7, .rf l_21, .un, .un, .un, .un, .un, .un] [(l_left, .ls (List.map dI c121)), (l_1, .ls (List.map dI (v_paper).1)), (l_2, .ls (List.map dI (v_paper).2)), (l_7, .ls (List.map dI c122)), (l_21, .ls (List.map dI c123))]
        obtain ⟨⟨t124, c125⟩, q126, h0⟩ := bindS h0
        refine wp_if (et_test (ev_op (ev_call1 0 (ea_cons (ev_rf (i := 0) rfl) (ea_cons (ev_int (i := 2)) ea_nil)) rfl ⟨_, ⟨_, _, _, _, _, q126, rfl, rfl, rfl⟩, fun _ _ h => h⟩) (ev_int (i := 0)) rr_eqI)) (fun hc => ?_) (fun hc => ?_)
        · have h0 := condT hc h0
          obtain ⟨u129, q130, h0⟩ := bindS h0
          refine wp_asgN (i := 6) (en_end (lc_map (f2 := dI) (step := fun x => some ((fun (v_number128 : Int) => (min2 v_number128 v_price)) x)) (src_C (f := dI) (j := 12) 4 (ev_rf (i := 6) rfl) rfl) (by decide) (fun _ => rfl) q130 (mapO_pure _) (by rintro v_number128 y_ hx_ h_; cases h_; exact (ev_cb (ea_cons (ev_var (i := 12) rfl) (ea_cons (ev_var (i := 3) rfl) ea_nil)) rc_min2)))) (fun l_127 nk_l_127 => ?_) rfl
          show Wp _ _ _ [.rf l_left, .da ((dL (dU dI)) v_one), .da ((dL (dU dI)) v_other), .da (dI v_price), .da ((dP (dL dI) (dL dI)) v_paper), .rf l_7, .rf l_127, .un, .un, .un, .un, .un, .un] [(l_left, .ls (List.map dI c125)), (l_1, .ls (List.map dI (v_paper).1)), (l_2, .ls (List.map dI (v_paper).2)), (l_7, .ls (List.map dI c122)), (l_21, .ls (List.map dI c123)), (l_127, .ls (List.map dI (List.map (fun (v_number128 : Int) => (min2 v_number128 v_price)) c123)))]
          obtain ⟨c203, q204, h0⟩ := bindS h0
          refine wp_forF (fun (s_ : (List Int)) => [.rf l_left, .da ((dL (dU dI)) v_one), .da ((dL (dU dI)) v_other), .da (dI v_price), .da ((dP (dL dI) (dL dI)) v_paper), .rf l_7, .rf l_127, .un, .un, .un, .un, .un, .un]) (fun (s_ : (List Int)) => [(l_left, .ls (List.map dI c125)), (l_1, .ls (List.map dI (v_paper).1)), (l_2, .ls (List.map dI (v_paper).2)), (l_7, .ls (List.map dI s_)), (l_21, .ls (List.map dI c123)), (l_127, .ls (List.map dI (List.map (fun (v_number128 : Int) => (min2 v_number128 v_price)) c123)))]) (src_En (f := (dU dI)) (j := 9) (k := 7) (ea_cons (ev_var (i := 1) rfl) ea_nil)) q204 (.cons .rfl (.cons .rfl (.cons .rfl (.cons .rfl (.cons .rfl (.cons .rfl (.cons .rfl (.cons .un (.cons .un (.cons .un (.cons .un (.cons .un (.cons .un Wks.nil))))))))))))) rfl (fun _ => True.intro) ?_ ?_
          · rintro lo1 c160 ⟨v_i131, v_colour132⟩ s_ hx1 h1 D1 he1 hn1 hct1
            show Wp _ _ _ [.rf l_left, .da ((dL (dU dI)) v_one), .da ((dL (dU dI)) v_other), .da (dI v_price), .da ((dP (dL dI) (dL dI)) v_paper), .rf l_7, .rf l_127, .da ((dU dI) v_colour132), .un, .da (dI v_i131), .un, .un, .un] [(l_left, .ls (List.map dI c125)), (l_1, .ls (List.map dI (v_paper).1)), (l_2, .ls (List.map dI (v_paper).2)), (l_7, .ls (List.map dI c160)), (l_21, .ls (List.map dI c123)), (l_127, .ls (List.map dI (List.map (fun (v_number128 : Int) => (min2 v_number128 v_price)) c123)))]
            obtain ⟨t182, q183, h1⟩ := bindS h1
            obtain ⟨rg184, q185, h1⟩ := bindS h1
            obtain ⟨u193, q194, h1⟩ := bindS h1
            obtain ⟨o195, q196, h1⟩ := bindS h1
            obtain ⟨u197, q198, h1⟩ := bindS h1
            obtain ⟨t199, q200, h1⟩ := bindS h1
            obtain ⟨c201, q202, h1⟩ := bindS h1
            refine wp_setL (f := dI) 3 (ev_cb (ea_cons (ev_op (show Ev _ _ _ _ (.da ((dL dI) ([t182, v_price] : (List Int)))) _ from ev_lst (dl := [dI t182, dI v_price]) (ea_cons (ev_op (ev_rf (i := 5) rfl) (ev_var (i := 9) rfl) (rr_ixC (f := dI) 3 rfl q183)) (ea_cons (ev_var (i := 3) rfl) ea_nil)) (Nat.le_of_ble_eq_true rfl)) (lc_end (lc_map (f2 := dI) (src_R1 (j := 10) (ea_cons (ev_cb (ea_cons (ev_var (i := 2) rfl) ea_nil) (rc_lenL (f := (dU dI)))) ea_nil) q185) (by decide) (fun _ => True.intro) q194 q196 (by rintro v_j186 y_ hx_ h_; obtain ⟨t187, q188, h_⟩ := bindS h_; obtain ⟨t189, q190, h_⟩ := bindS h_; obtain ⟨t191, q192, h_⟩ := bindS h_; cases h_; exact (ev_op (ev_call (ea_cons (ev_var (i := 7) rfl) (ea_cons (ev_op (ev_var (i := 2) rfl) (ev_var (i := 10) rfl) (rr_ixL (f := (dU dI)) q188)) ea_nil)) ⟨_, ⟨_, _, _, q190, rfl, rfl, rfl⟩, fun _ _ h => h⟩) (ev_op (ev_rf (i := 6) rfl) (ev_var (i := 10) rfl) (rr_ixC (f := dI) 5 rfl q192)) rr_i)))) (rr_cat q198)) ea_nil) (rc_min (f := dI) (by decide) q200)) (ev_rf (i := 5) rfl) (ev_var (i := 9) rfl) rfl q202 ?_
            show Wp _ _ _ [.rf l_left, .da ((dL (dU dI)) v_one), .da ((dL (dU dI)) v_other), .da (dI v_price), .da ((dP (dL dI) (dL dI)) v_paper), .rf l_7, .rf l_127, .da ((dU dI) v_colour132), .un, .da (dI v_i131), .un, .un, .un] [(l_left, .ls (List.map dI c125)), (l_1, .ls (List.map dI (v_paper).1)), (l_2, .ls (List.map dI (v_paper).2)), (l_7, .ls (List.map dI c201)), (l_21, .ls (List.map dI c123)), (l_127, .ls (List.map dI (List.map (fun (v_number128 : Int) => (min2 v_number128 v_price)) c123)))]
            cases h1
            exact wp_next fun σ H a => hn1 σ H (at_weak (.cons .rfl (.cons .rfl (.cons .rfl (.cons .rfl (.cons .rfl (.cons .rfl (.cons .rfl (.cons .un (.cons .un (.cons .un (.cons .un (.cons .un (.cons .un Wks.nil))))))))))))) a)
          · show Wp _ _ _ [.rf l_left, .da ((dL (dU dI)) v_one), .da ((dL (dU dI)) v_other), .da (dI v_price), .da ((dP (dL dI) (dL dI)) v_paper), .rf l_7, .rf l_127, .un, .un, .un, .un, .un, .un] [(l_left, .ls (List.map dI c125)), (l_1, .ls (List.map dI (v_paper).1)), (l_2, .ls (List.map dI (v_paper).2)), (l_7, .ls (List.map dI c203)), (l_21, .ls (List.map dI c123)), (l_127, .ls (List.map dI (List.map (fun (v_number128 : Int) => (min2 v_number128 v_price)) c123)))]
            refine wp_next ?_
            refine wp_frz (i := 5) (j := 3) (l := l_7) rfl rfl nk_l_7 ?_
            show Wp _ _ _ [.rf l_left, .da ((dL (dU dI)) v_one), .da ((dL (dU dI)) v_other), .da (dI v_price), .da ((dP (dL dI) (dL dI)) v_paper), .da ((dL dI) c203), .rf l_127, .un, .un, .un, .un, .un, .un] [(l_left, .ls (List.map dI c125)), (l_1, .ls (List.map dI (v_paper).1)), (l_2, .ls (List.map dI (v_paper).2)), (l_21, .ls (List.map dI c123)), (l_127, .ls (List.map dI (List.map (fun (v_number128 : Int) => (min2 v_number128 v_price)) c123)))]
            refine wp_frz (i := 6) (j := 4) (l := l_127) rfl rfl nk_l_127 ?_
            show Wp _ _ _ [.rf l_left, .da ((dL (dU dI)) v_one), .da ((dL (dU dI)) v_other), .da (dI v_price), .da ((dP (dL dI) (dL dI)) v_paper), .da ((dL dI) c203), .da ((dL dI) (List.map (fun (v_number128 : Int) => (min2 v_number128 v_price)) c123)), .un, .un, .un, .un, .un, .un] [(l_left, .ls (List.map dI c125)), (l_1, .ls (List.map dI (v_paper).1)), (l_2, .ls (List.map dI (v_paper).2)), (l_21, .ls (List.map dI c123))]
            have z0_ := Option.some.inj h0
            obtain ⟨e0_, e1_⟩ := Prod.mk.inj z0_
            subst e0_
            subst e1_
            exact wp_retS (show Ev _ _ _ _ (.da ((dP (dL dI) (dL dI)) (c203, (List.map (fun (v_number128 : Int) => (min2 v_number128 v_price)) c123)))) _ from ev_tup (dl := [(dL dI) c203, (dL dI) (List.map (fun (v_number128 : Int) => (min2 v_number128 v_price)) c123)]) (ea_cons (ev_var (i := 5) rfl) (ea_cons (ev_var (i := 6) rfl) ea_nil)) (Nat.le_of_ble_eq_true rfl)) hfin ⟨rfl, rfl⟩ (List.Sublist.cons₂ _ (List.nil_sublist _))
        · have h0 := condF hc h0
          refine wp_next ?_
          refine wp_frz (i := 5) (j := 3) (l := l_7) rfl rfl nk_l_7 ?_
          show Wp _ _ _ [.rf l_left, .da ((dL (dU dI)) v_one), .da ((dL (dU dI)) v_other), .da (dI v_price), .da ((dP (dL dI) (dL dI)) v_paper), .da ((dL dI) c122), .rf l_21, .un, .un, .un, .un, .un, .un] [(l_left, .ls (List.map dI c125)), (l_1, .ls (List.map dI (v_paper).1)), (l_2, .ls (List.map dI (v_paper).2)), (l_21, .ls (List.map dI c123))]
          refine wp_frz (i := 6) (j := 3) (l := l_21) rfl rfl nk_l_21 ?_
          show Wp _ _ _ [.rf l_left, .da ((dL (dU dI)) v_one), .da ((dL (dU dI)) v_other), .da (dI v_price), .da ((dP (dL dI) (dL dI)) v_paper), .da ((dL dI) c122), .da ((dL dI) c123), .un, .un, .un, .un, .un, .un] [(l_left, .ls (List.map dI c125)), (l_1, .ls (List.map dI (v_paper).1)), (l_2, .ls (List.map dI (v_paper).2))]
          have z0_ := Option.some.inj h0
          obtain ⟨e0_, e1_⟩ := Prod.mk.inj z0_
          subst e0_
          subst e1_
          exact wp_retS (show Ev _ _ _ _ (.da ((dP (dL dI) (dL dI)) (c122, c123))) _ from ev_tup (dl := [(dL dI) c122, (dL dI) c123]) (ea_cons (ev_var (i := 5) rfl) (ea_cons (ev_var (i := 6) rfl) ea_nil)) (Nat.le_of_ble_eq_true rfl)) hfin ⟨rfl, rfl⟩ (List.Sublist.cons₂ _ (List.nil_sublist _))
    · have h0 := condF hc h0
      refine wp_next ?_
      obtain ⟨⟨t206, c207⟩, q208, h0⟩ := bindS h0
      obtain ⟨rg209, q210, h0⟩ := bindS h0
      obtain ⟨⟨c263, c264, c265⟩, q345, h0⟩ := bindS h0
      refine wp_forF (fun (s_ : (List Int) × (List Int) × (List Int)) => [.rf l_left, .da ((dL (dU dI)) v_one), .da ((dL (dU dI)) v_other), .da (dI v_price), .da ((dP (dL dI) (dL dI)) v_paper), .rf l_1, .rf l_2, .un, .un, .un, .un, .un, .un]) (fun (s_ : (List Int) × (List Int) × (List Int)) => [(l_left, .ls (List.map dI s_.1)), (l_1, .ls (List.map dI s_.2.1)), (l_2, .ls (List.map dI s_.2.2))]) (src_R1 (j := 8) (ea_cons (ev_call1 0 (ea_cons (ev_rf (i := 0) rfl) (ea_cons (ev_int (i := 4)) ea_nil)) rfl ⟨_, ⟨_, _, _, _, _, q208, rfl, rfl, rfl⟩, fun _ _ h => h⟩) ea_nil) q210) q345 (.cons .rfl (.cons .rfl (.cons .rfl (.cons .rfl (.cons .rfl (.cons .rfl (.cons .rfl (.cons .un (.cons .un (.cons .un (.cons .un (.cons .un (.cons .un Wks.nil))))))))))))) rfl (fun _ => True.intro) ?_ ?_
      · rintro lo1 ⟨c212, c213, c214⟩ v_turn211 s_ hx1 h1 D1 he1 hn1 hct1
        show Wp _ _ _ [.rf l_left, .da ((dL (dU dI)) v_one), .da ((dL (dU dI)) v_other), .da (dI v_price), .da ((dP (dL dI) (dL dI)) v_paper), .rf l_1, .rf l_2, .un, .da (dI v_turn211), .un, .un, .un, .un] [(l_left, .ls (List.map dI c212)), (l_1, .ls (List.map dI c213)), (l_2, .ls (List.map dI c214))]
        obtain ⟨⟨t239, c240⟩, q241, h1⟩ := bindS h1
        obtain ⟨⟨t242, c243⟩, q244, h1⟩ := bindS h1
        obtain ⟨⟨t245, c246⟩, q247, h1⟩ := bindS h1
        obtain ⟨t248, q249, h1⟩ := bindS h1
        refine wp_par3 (i := 9) (j := 10) (l := 11) (ea_cons (ev_call1 0 (ea_cons (ev_rf (i := 0) rfl) (ea_cons (ev_cb (ea_cons (ev_rf (i := 5) rfl) ea_nil) (rc_lenC (f := dI) 1 rfl)) ea_nil)) rfl ⟨_, ⟨_, _, _, _, _, q241, rfl, rfl, rfl⟩, fun _ _ h => h⟩) (ea_cons (ev_call1 0 (ea_cons (ev_rf (i := 0) rfl) (ea_cons (ev_cb (ea_cons (ev_rf (i := 6) rfl) ea_nil) (rc_lenC (f := dI) 2 rfl)) ea_nil)) rfl ⟨_, ⟨_, _, _, _, _, q244, rfl, rfl, rfl⟩, fun _ _ h => h⟩) (ea_cons (ev_op (show Ev _ _ _ _ (.da ((dL dI) ([(1 : Int), (-(1 : Int)), (3 : Int), (-(10 : Int))] : (List Int)))) _ from ev_lst (dl := [dI (1 : Int), dI (-(1 : Int)), dI (3 : Int), dI (-(10 : Int))]) (ea_cons (ev_int (i := 1)) (ea_cons (ev_un (ev_int (i := 1)) ru_neg) (ea_cons (ev_int (i := 3)) (ea_cons (ev_un (ev_int (i := 10)) ru_neg) ea_nil)))) (Nat.le_of_ble_eq_true rfl)) (ev_call1 0 (ea_cons (ev_rf (i := 0) rfl) (ea_cons (ev_int (i := 4)) ea_nil)) rfl ⟨_, ⟨_, _, _, _, _, q247, rfl, rfl, rfl⟩, fun _ _ h => h⟩) (rr_ixL (f := dI) q249)) ea_nil))) ?_
        show Wp _ _ _ [.rf l_left, .da ((dL (dU dI)) v_one), .da ((dL (dU dI)) v_other), .da (dI v_price), .da ((dP (dL dI) (dL dI)) v_paper), .rf l_1, .rf l_2, .un, .da (dI v_turn211), .da (dI t239), .da (dI t242), .da (dI t248), .un] [(l_left, .ls (List.map dI c246)), (l_1, .ls (List.map dI c213)), (l_2, .ls (List.map dI c214))]
        obtain ⟨t250, q251, h1⟩ := bindS h1
        obtain ⟨t252, q253, h1⟩ := bindS h1
        obtain ⟨⟨t254, c255⟩, q256, h1⟩ := bindS h1
        obtain ⟨t257, q258, h1⟩ := bindS h1
        obtain ⟨c259, q260, h1⟩ := bindS h1
        obtain ⟨c261, q262, h1⟩ := bindS h1
        refine wp_set2 (k := dI) (k2 := dI) (m2 := [(l_left, .ls (List.map dI c255)), (l_1, .ls (List.map dI c259)), (l_2, .ls (List.map dI c214))]) 1 2 (show Ev _ _ _ _ (.da ((dP dI dI) ((t250 + t248), (t252 - t257)))) _ from ev_tup (dl := [dI (t250 + t248), dI (t252 - t257)]) (ea_cons (ev_op (ev_op (ev_rf (i := 5) rfl) (ev_var (i := 9) rfl) (rr_ixC (f := dI) 1 rfl q251)) (ev_var (i := 11) rfl) rr_i) (ea_cons (ev_op (ev_op (ev_rf (i := 6) rfl) (ev_var (i := 10) rfl) (rr_ixC (f := dI) 2 rfl q253)) (ev_op (show Ev _ _ _ _ (.da ((dL dI) ([t248, (0 : Int)] : (List Int)))) _ from ev_lst (dl := [dI t248, dI (0 : Int)]) (ea_cons (ev_var (i := 11) rfl) (ea_cons (ev_int (i := 0)) ea_nil)) (Nat.le_of_ble_eq_true rfl)) (ev_call1 0 (ea_cons (ev_rf (i := 0) rfl) (ea_cons (ev_int (i := 2)) ea_nil)) rfl ⟨_, ⟨_, _, _, _, _, q256, rfl, rfl, rfl⟩, fun _ _ h => h⟩) (rr_ixL (f := dI) q258)) rr_i) ea_nil)) (Nat.le_of_ble_eq_true rfl)) (ev_rf (i := 5) rfl) (ev_var (i := 9) rfl) rfl q260 rfl (ev_rf (i := 6) rfl) (ev_var (i := 10) rfl) rfl q262 ?_
        show Wp _ _ _ [.rf l_left, .da ((dL (dU dI)) v_one), .da ((dL (dU dI)) v_other), .da (dI v_price), .da ((dP (dL dI) (dL dI)) v_paper), .rf l_1, .rf l_2, .un, .da (dI v_turn211), .da (dI t239), .da (dI t242), .da (dI t248), .un] [(l_left, .ls (List.map dI c255)), (l_1, .ls (List.map dI c259)), (l_2, .ls (List.map dI c261))]
        cases h1
        exact wp_next fun σ H a => hn1 σ H (at_weak (.cons .rfl (.cons .rfl (.cons .rfl (.cons .rfl (.cons .rfl (.cons .rfl (.cons .rfl (.cons .un (.cons .un (.cons .un (.cons .un (.cons .un (.cons .un Wks.nil))))))))))))) a)
      · show Wp _ _ _ [.rf l_left, .da ((dL (dU dI)) v_one), .da ((dL (dU dI)) v_other), .da (dI v_price), .da ((dP (dL dI) (dL dI)) v_paper), .rf l_1, .rf l_2, .un, .un, .un, .un, .un, .un] [(l_left, .ls (List.map dI c263)), (l_1, .ls (List.map dI c264)), (l_2, .ls (List.map dI c265))]
        obtain ⟨⟨t266, c267⟩, q268, h0⟩ := bindS h0
        refine wp_if (et_test (ev_op (ev_call1 0 (ea_cons (ev_rf (i := 0) rfl) (ea_cons (ev_int (i := 2)) ea_nil)) rfl ⟨_, ⟨_, _, _, _, _, q268, rfl, rfl, rfl⟩, fun _ _ h => h⟩) (ev_int (i := 0)) rr_eqI)) (fun hc => ?_) (fun hc => ?_)
        · have h0 := condT hc h0
          obtain ⟨u271, q272, h0⟩ := bindS h0
          refine wp_asgN (i := 6) (en_end (lc_map (f2 := dI) (step := fun x => some ((fun (v_number270 : Int) => (min2 v_number270 v_price)) x)) (src_C (f := dI) (j := 12) 2 (ev_rf (i := 6) rfl) rfl) (by decide) (fun _ => rfl) q272 (mapO_pure _) (by rintro v_number270 y_ hx_ h_; cases h_; exact (ev_cb (ea_cons (ev_var (i := 12) rfl) (ea_cons (ev_var (i := 3) rfl) ea_nil)) rc_min2)))) (fun l_269 nk_l_269 => ?_) rfl
          show Wp _ _ _ [.rf l_left, .da ((dL (dU dI)) v_one), .da ((dL (dU dI)) v_other), .da (dI v_price), .da ((dP (dL dI) (dL dI)) v_paper), .rf l_1, .rf l_269, .un, .un, .un, .un, .un, .un] [(l_left, .ls (List.map dI c267)), (l_1, .ls (List.map dI c264)), (l_2, .ls (List.map dI c265)), (l_269, .ls (List.map dI (List.map (fun (v_number270 : Int) => (min2 v_number270 v_price)) c265)))]
          obtain ⟨c343, q344, h0⟩ := bindS h0
          refine wp_forF (fun (s_ : (List Int)) => [.rf l_left, .da ((dL (dU dI)) v_one), .da ((dL (dU dI)) v_other), .da (dI v_price), .da ((dP (dL dI) (dL dI)) v_paper), .rf l_1, .rf l_269, .un, .un, .un, .un, .un, .un]) (fun (s_ : (List Int)) => [(l_left, .ls (List.map dI c267)), (l_1, .ls (List.map dI s_)), (l_2, .ls (List.map dI c265)), (l_269, .ls (List.map dI (List.map (fun (v_number270 : Int) => (min2 v_number270 v_price)) c265)))]) (src_En (f := (dU dI)) (j := 9) (k := 7) (ea_cons (ev_var (i := 1) rfl) ea_nil)) q344 (.cons .rfl (.cons .rfl (.cons .rfl (.cons .rfl (.cons .rfl (.cons .rfl (.cons .rfl (.cons .un (.cons .un (.cons .un (.cons .un (.cons .un (.cons .un Wks.nil))))))))))))) rfl (fun _ => True.intro) ?_ ?_
          · rintro lo1 c300 ⟨v_i273, v_colour274⟩ s_ hx1 h1 D1 he1 hn1 hct1
            show Wp _ _ _ [.rf l_left, .da ((dL (dU dI)) v_one), .da ((dL (dU dI)) v_other), .da (dI v_price), .da ((dP (dL dI) (dL dI)) v_paper), .rf l_1, .rf l_269, .da ((dU dI) v_colour274), .un, .da (dI v_i273), .un, .un, .un] [(l_left, .ls (List.map dI c267)), (l_1, .ls (List.map dI c300)), (l_2, .ls (List.map dI c265)), (l_269, .ls (List.map dI (List.map (fun (v_number270 : Int) => (min2 v_number270 v_price)) c265)))]
            obtain ⟨t322, q323, h1⟩ := bindS h1
            obtain ⟨rg324, q325, h1⟩ := bindS h1
            obtain ⟨u333, q334, h1⟩ := bindS h1
            obtain ⟨o335, q336, h1⟩ := bindS h1
            obtain ⟨u337, q338, h1⟩ := bindS h1
            obtain ⟨t339, q340, h1⟩ := bindS h1
            obtain ⟨c341, q342, h1⟩ := bindS h1
            refine wp_setL (f := dI) 1 (ev_cb (ea_cons (ev_op (show Ev _ _ _ _ (.da ((dL dI) ([t322, v_price] : (List Int)))) _ from ev_lst (dl := [dI t322, dI v_price]) (ea_cons (ev_op (ev_rf (i := 5) rfl) (ev_var (i := 9) rfl) (rr_ixC (f := dI) 1 rfl q323)) (ea_cons (ev_var (i := 3) rfl) ea_nil)) (Nat.le_of_ble_eq_true rfl)) (lc_end (lc_map (f2 := dI) (src_R1 (j := 10) (ea_cons (ev_cb (ea_cons (ev_var (i := 2) rfl) ea_nil) (rc_lenL (f := (dU dI)))) ea_nil) q325) (by decide) (fun _ => True.intro) q334 q336 (by rintro v_j326 y_ hx_ h_; obtain ⟨t327, q328, h_⟩ := bindS h_; obtain ⟨t329, q330, h_⟩ := bindS h_; obtain ⟨t331, q332, h_⟩ := bindS h_; cases h_; exact (ev_op (ev_call (ea_cons (ev_var (i := 7) rfl) (ea_cons (ev_op (ev_var (i := 2) rfl) (ev_var (i := 10) rfl) (rr_ixL (f := (dU dI)) q328)) ea_nil)) ⟨_, ⟨_, _, _, q330, rfl, rfl, rfl⟩, fun _ _ h => h⟩) (ev_op (ev_rf (i := 6) rfl) (ev_var (i := 10) rfl) (rr_ixC (f := dI) 3 rfl q332)) rr_i)))) (rr_cat q338)) ea_nil) (rc_min (f := dI) (by decide) q340)) (ev_rf (i := 5) rfl) (ev_var (i := 9) rfl) rfl q342 ?_
            show Wp _ _ _ [.rf l_left, .da ((dL (dU dI)) v_one), .da ((dL (dU dI)) v_other), .da (dI v_price), .da ((dP (dL dI) (dL dI)) v_paper), .rf l_1, .rf l_269, .da ((dU dI) v_colour274), .un, .da (dI v_i273), .un, .un, .un] [(l_left, .ls (List.map dI c267)), (l_1, .ls (List.map dI c341)), (l_2, .ls (List.map dI c265)), (l_269, .ls (List.map dI (List.map (fun (v_number270 : Int) => (min2 v_number270 v_price)) c265)))]
            cases h1
            exact wp_next fun σ H a => hn1 σ H (at_weak (.cons .rfl (.cons .rfl (.cons .rfl (.cons .rfl (.cons .rfl (.cons .rfl (.cons .rfl (.cons .un (.cons .un (.cons .un (.cons .un (.cons .un (.cons .un Wks.nil))))))))))))) a)
          · show Wp _ _ _ [.rf l_left, .da ((dL (dU dI)) v_one), .da ((dL (dU dI)) v_other), .da (dI v_price), .da ((dP (dL dI) (dL dI)) v_paper), .rf l_1, .rf l_269, .un, .un, .un, .un, .un, .un] [(l_left, .ls (List.map dI c267)), (l_1, .ls (List.map dI c343)), (l_2, .ls (List.map dI c265)), (l_269, .ls (List.map dI (List.map (fun (v_number270 : Int) => (min2 v_number270 v_price)) c265)))]
            refine wp_next ?_
            refine wp_frz (i := 5) (j := 1) (l := l_1) rfl rfl nk_l_1 ?_
            show Wp _ _ _ [.rf l_left, .da ((dL (dU dI)) v_one), .da ((dL (dU dI)) v_other), .da (dI v_price), .da ((dP (dL dI) (dL dI)) v_paper), .da ((dL dI) c343), .rf l_269, .un, .un, .un, .un, .un, .un] [(l_left, .ls (List.map dI c267)), (l_2, .ls (List.map dI c265)), (l_269, .ls (List.map dI (List.map (fun (v_number270 : Int) => (min2 v_number270 v_price)) c265)))]
            refine wp_frz (i := 6) (j := 2) (l := l_269) rfl rfl nk_l_269 ?_
            show Wp _ _ _ [.rf l_left, .da ((dL (dU dI)) v_one), .da ((dL (dU dI)) v_other), .da (dI v_price), .da ((dP (dL dI) (dL dI)) v_paper), .da ((dL dI) c343), .da ((dL dI) (List.map (fun (v_number270 : Int) => (min2 v_number270 v_price)) c265)), .un, .un, .un, .un, .un, .un] [(l_left, .ls (List.map dI c267)), (l_2, .ls (List.map dI c265))]
            have z0_ := Option.some.inj h0
            obtain ⟨e0_, e1_⟩ := Prod.mk.inj z0_
            subst e0_
            subst e1_
            exact wp_retS (show Ev _ _ _ _ (.da ((dP (dL dI) (dL dI)) (c343, (List.map (fun (v_number270 : Int) => (min2 v_number270 v_price)) c265)))) _ from ev_tup (dl := [(dL dI) c343, (dL dI) (List.map (fun (v_number270 : Int) => (min2 v_number270 v_price)) c265)]) (ea_cons (ev_var (i := 5) rfl) (ea_cons (ev_var (i := 6) rfl) ea_nil)) (Nat.le_of_ble_eq_true rfl)) hfin ⟨rfl, rfl⟩ (List.Sublist.cons₂ _ (List.nil_sublist _))
        · have h0 := condF hc h0
          refine wp_next ?_
          refine wp_frz (i := 5) (j := 1) (l := l_1) rfl rfl nk_l_1 ?_
          show Wp _ _ _ [.rf l_left, .da ((dL (dU dI)) v_one), .da ((dL (dU dI)) v_other), .da (dI v_price), .da ((dP (dL dI) (dL dI)) v_paper), .da ((dL dI) c264), .rf l_2, .un, .un, .un, .un, .un, .un] [(l_left, .ls (List.map dI c267)), (l_2, .ls (List.map dI c265))]
          refine wp_frz (i := 6) (j := 1) (l := l_2) rfl rfl nk_l_2 ?_
          show Wp _ _ _ [.rf l_left, .da ((dL (dU dI)) v_one), .da ((dL (dU dI)) v_other), .da (dI v_price), .da ((dP (dL dI) (dL dI)) v_paper), .da ((dL dI) c264), .da ((dL dI) c265), .un, .un, .un, .un, .un, .un] [(l_left, .ls (List.map dI c267))]
          have z0_ := Option.some.inj h0
          obtain ⟨e0_, e1_⟩ := Prod.mk.inj z0_
          subst e0_
          subst e1_
          exact wp_retS (show Ev _ _ _ _ (.da ((dP (dL dI) (dL dI)) (c264, c265))) _ from ev_tup (dl := [(dL dI) c264, (dL dI) c265]) (ea_cons (ev_var (i := 5) rfl) (ea_cons (ev_var (i := 6) rfl) ea_nil)) (Nat.le_of_ble_eq_true rfl)) hfin ⟨rfl, rfl⟩ (List.Sublist.cons₂ _ (List.nil_sublist _))
end K92
set_option maxHeartbeats 2000000
namespace K92
open PySem PySem.Spec PyProof.Rows L2 Evl FC
theorem ok_m_law_keeps {P : Program} {w : World} {K : PySem.W.Frag} {mg : Str → Option Value} {base : Heap} {f : Addr} {fd : FuncData} (FF : Fun K "_law_keeps" "_law_keeps" sm_law_keeps f fd) {f_m_law_apart : Addr} {fd_m_law_apart : FuncData} (G_m_law_apart : FnOk P w K mg base CX0 1 f_m_law_apart fd_m_law_apart ["one", "other"] (spOf K (pf_m_law_apart))) (g_m_law_apart : mg "_law_apart" = some (.ref f_m_law_apart)) (k_m_law_apart : PySem.W.keepIn K (.ref f_m_law_apart) = true) (b_m_law_apart : Binds K fd_m_law_apart ["one", "other"] []) (n_any : mg "any" = none) (n_enumerate : mg "enumerate" = none) (n_len : mg "len" = none) (n_max : mg "max" = none) (n_range : mg "range" = none) : FnOk P w K mg base CX0 2 f fd ["one", "other", "price", "paper"] (spOf K (pf_m_law_keeps)) := by
  refine ok_of (N := N_m_law_keeps) FF sc_m_law_keeps (fun as m R hG => ?_) (fun cdv A outer s H E hr => ?_)
  · obtain ⟨v_one, v_other, v_price, v_paper, r_, _, rfl, _⟩ := hG
    rfl
  · have nd : (N_m_law_keeps : List Str).Nodup := sc_m_law_keeps.nd
    refine ⟨_, (pss_cons (ps_asg (pv 3) (pg_tup rfl (pgs_cons (pg_name (i := 4) nd rfl (Or.inr rfl)) (pgs_cons (pg_name (i := 5) nd rfl (Or.inr rfl)) pgs_nil))))
      (pss_cons (ps_if (pt_cmpR op_gt (pe_callB (kCa (r := rMaxP) (K := K) (cr_maxP rfl hr.units) rfl) (by rfl) n_max (by decide +kernel) (pa_cons (pe_op op_cat (pv 4) (pv 5)) pa_nil)) (pv 2) (nomark _)) (pss_cons (ps_ret pe_bl) pss_nil) pss_nil)
      (pss_cons (ps_for PassesOwn.never rfl (kPi (r := fun K => iEnum K _) (K := K) (pi_enum (by rfl) n_enumerate (pa_cons (pv 0) pa_nil)) rfl) (pg_tup rfl (pgs_cons (pg_name (i := 6) nd rfl (by first | exact Or.inl rfl | exact Or.inr rfl)) (pgs_cons (pg_name (i := 7) nd rfl (by first | exact Or.inl rfl | exact Or.inr rfl)) pgs_nil)))
      (pss_cons (ps_if (pt_val (pe_callB (kCa (r := rAny) (K := K) (cr_any rfl) rfl) (by rfl) n_any (by decide +kernel) (pa_cons (pe_lc (own := [("j", 8)]) (g := gName 8) (tt := tYes) rfl nd (pi_range1 (by rfl) n_range (pa_cons (pe_callB (kCa (r := rLenA) (K := K) call_len_seq rfl) (by rfl) n_len (by decide +kernel) (pa_cons (pv 1) pa_nil)) pa_nil)) (blkOk_by (own := [("j", 8)]) (N := N_m_law_keeps) (sc := (defScope sm_law_keeps)) (by decide +kernel)) (fun _ _ _ _ _ => (pg_name (i := 8) nd rfl (by first | exact Or.inl rfl | exact Or.inr rfl))) (fun _ _ _ _ _ => pts_nil) (fun _ _ _ _ _ => (pe_cmpR op_gt (pe_op op_add (pe_ix (kIx (r := rIxL) (K := K) ix_list rfl) (pv 4) (pv 6) (fun _ _ => rfl)) (pe_ix (kIx (r := rIxL) (K := K) ix_list rfl) (pv 5) (pv 8) (fun _ _ => rfl))) (pe_call G_m_law_apart (hr.mono (by decide)) (by rfl) g_m_law_apart k_m_law_apart b_m_law_apart .nil pass0 (pa_cons (pv 7) (pa_cons (pe_ix (kIx (r := rIxL) (K := K) ix_list rfl) (pv 1) (pv 8) (fun _ _ => rfl)) pa_nil))) (nomark _)))) pa_nil))) (pss_cons (ps_ret pe_bl) pss_nil) pss_nil)
      pss_nil))
      (pss_cons (ps_ret pe_bl) pss_nil)))), ?_⟩
    rintro as m R ⟨v_one, v_other, v_price, v_paper, r_, h0, rfl, rfl, rfl⟩ F D rfl hk hfin hnx
    unfold m_law_keeps at h0
    show Wp _ _ _ [.da ((dL (dU dI)) v_one), .da ((dL (dU dI)) v_other), .da (dI v_price), .da ((dP (dL dI) (dL dI)) v_paper), .un, .un, .un, .un, .un] []
    refine wp_unp2 (f := (dL dI)) (g := (dL dI)) (i := 4) (j := 5) (ev_var (i := 3) rfl) ?_
    show Wp _ _ _ [.da ((dL (dU dI)) v_one), .da ((dL (dU dI)) v_other), .da (dI v_price), .da ((dP (dL dI) (dL dI)) v_paper), .da ((dL dI) (v_paper).1), .da ((dL dI) (v_paper).2), .un, .un, .un] []
    obtain ⟨u1, q2, h0⟩ := bindS h0
    obtain ⟨t3, q4, h0⟩ := bindS h0
    refine wp_if (et_test (ev_op (ev_cb (ea_cons (ev_op (ev_var (i := 4) rfl) (ev_var (i := 5) rfl) (rr_cat q2)) ea_nil) (rc_max (f := dI) (by decide) q4)) (ev_var (i := 2) rfl) (rr_b (f := fun i j => decide (j < i))))) (fun hc => ?_) (fun hc => ?_)
    · have h0 := condT hc h0
      have e0_ := Option.some.inj h0
      subst e0_
      exact wp_retS ev_bl hfin ⟨rfl, rfl⟩ (List.nil_sublist _)
    · have h0 := condF hc h0
      refine wp_next ?_
      obtain ⟨k39, q38, h0⟩ := bindS h0
      refine wp_forC (fun (s_ : Unit) => [.da ((dL (dU dI)) v_one), .da ((dL (dU dI)) v_other), .da (dI v_price), .da ((dP (dL dI) (dL dI)) v_paper), .da ((dL dI) (v_paper).1), .da ((dL dI) (v_paper).2), .un, .un, .un]) (fun (s_ : Unit) => []) (src_En (f := (dU dI)) (j := 6) (k := 7) (ea_cons (ev_var (i := 0) rfl) ea_nil)) q38 (.cons .rfl (.cons .rfl (.cons .rfl (.cons .rfl (.cons .rfl (.cons .rfl (.cons .un (.cons .un (.cons .un Wks.nil))))))))) rfl (fun _ => True.intro) ?_ ?_
      · rintro lo1 ⟨⟩ ⟨v_i5, v_colour6⟩ c_ hx1 h1 D1 he1 hn1 hct1 hbk1 hret1
        show Wp _ _ _ [.da ((dL (dU dI)) v_one), .da ((dL (dU dI)) v_other), .da (dI v_price), .da ((dP (dL dI) (dL dI)) v_paper), .da ((dL dI) (v_paper).1), .da ((dL dI) (v_paper).2), .da (dI v_i5), .da ((dU dI) v_colour6), .un] []
        obtain ⟨rg22, q23, h1⟩ := bindS h1
        obtain ⟨u33, q34, h1⟩ := bindS h1
        obtain ⟨o35, q36, h1⟩ := bindS h1
        refine wp_if (et_val (ev_cb (ea_cons (lc_end (lc_map (f2 := dB) (src_R1 (j := 8) (ea_cons (ev_cb (ea_cons (ev_var (i := 1) rfl) ea_nil) (rc_lenL (f := (dU dI)))) ea_nil) q23) (by decide) (fun _ => True.intro) q34 q36 (by rintro v_j24 y_ hx_ h_; obtain ⟨t25, q26, h_⟩ := bindS h_; obtain ⟨t27, q28, h_⟩ := bindS h_; obtain ⟨t29, q30, h_⟩ := bindS h_; obtain ⟨t31, q32, h_⟩ := bindS h_; cases h_; exact (ev_op (ev_op (ev_op (ev_var (i := 4) rfl) (ev_var (i := 6) rfl) (rr_ixL (f := dI) q26)) (ev_op (ev_var (i := 5) rfl) (ev_var (i := 8) rfl) (rr_ixL (f := dI) q28)) rr_i) (ev_call (ea_cons (ev_var (i := 7) rfl) (ea_cons (ev_op (ev_var (i := 1) rfl) (ev_var (i := 8) rfl) (rr_ixL (f := (dU dI)) q30)) ea_nil)) ⟨_, ⟨_, _, _, q32, rfl, rfl, rfl⟩, fun _ _ h => h⟩) (rr_b (f := fun i j => decide (j < i))))))) ea_nil) rc_any)) (fun hc => ?_) (fun hc => ?_)
        · have h1 := condT hc h1
          cases h1
          have g1 := ctlK_rt (hret1 _ rfl) h0
          have e0_ := Option.some.inj g1
          subst e0_
          exact wp_retS ev_bl (fin_at hfin he1) ⟨rfl, rfl⟩ (List.nil_sublist _)
        · have h1 := condF hc h1
          refine wp_next ?_
          cases h1
          exact wp_next fun σ H a => (hn1 _ rfl) σ H (at_weak (.cons .rfl (.cons .rfl (.cons .rfl (.cons .rfl (.cons .rfl (.cons .rfl (.cons .un (.cons .un (.cons .un Wks.nil))))))))) a)
      · rintro ⟨⟩ hk_
        have h0 := ctlK_go hk_ h0
        show Wp _ _ _ [.da ((dL (dU dI)) v_one), .da ((dL (dU dI)) v_other), .da (dI v_price), .da ((dP (dL dI) (dL dI)) v_paper), .da ((dL dI) (v_paper).1), .da ((dL dI) (v_paper).2), .un, .un, .un] []
        have e0_ := Option.some.inj h0
        subst e0_
        exact wp_retS ev_bl hfin ⟨rfl, rfl⟩ (List.nil_sublist _)
end K92
set_option maxHeartbeats 2000000
namespace K92
open PySem PySem.Spec PyProof.Rows L2 Evl FC
theorem ok_m_law_right {P : Program} {w : World} {K : PySem.W.Frag} {mg : Str → Option Value} {base : Heap} {f : Addr} {fd : FuncData} (FF : Fun K "_law_right" "_law_right" sm_law_right f fd) {f_m_law_cost : Addr} {fd_m_law_cost : FuncData} (G_m_law_cost : FnOk P w K mg base CX0 2 f_m_law_cost fd_m_law_cost ["one", "other", "price", "pairs"] (spOf K (pf_m_law_cost))) (g_m_law_cost : mg "_law_cost" = some (.ref f_m_law_cost)) (k_m_law_cost : PySem.W.keepIn K (.ref f_m_law_cost) = true) (b_m_law_cost : Binds K fd_m_law_cost ["one", "other", "price", "pairs"] []) {f_m_law_keeps : Addr} {fd_m_law_keeps : FuncData} (G_m_law_keeps : FnOk P w K mg base CX0 2 f_m_law_keeps fd_m_law_keeps ["one", "other", "price", "paper"] (spOf K (pf_m_law_keeps))) (g_m_law_keeps : mg "_law_keeps" = some (.ref f_m_law_keeps)) (k_m_law_keeps : PySem.W.keepIn K (.ref f_m_law_keeps) = true) (b_m_law_keeps : Binds K fd_m_law_keeps ["one", "other", "price", "paper"] []) {f_m_shows_change : Addr} {fd_m_shows_change : FuncData} (G_m_shows_change : FnOk P w K mg base CX0 4 f_m_shows_change fd_m_shows_change ["one", "other", "price", "pairs", "paper"] (spOf K (pf_m_shows_change))) (g_m_shows_change : mg "shows_change" = some (.ref f_m_shows_change)) (k_m_shows_change : PySem.W.keepIn K (.ref f_m_shows_change) = true) (b_m_shows_change : Binds K fd_m_shows_change ["one", "other", "price", "pairs", "paper"] []) (n_bool : mg "bool" = none) (n_isinstance : mg "isinstance" = none) (n_sum : mg "sum" = none) : FnOk P w K mg base CX0 5 f fd ["one", "other", "price", "paper", "lists", "least"] (spOf K (pf_m_law_right)) := by
  refine ok_of (N := N_m_law_right) FF sc_m_law_right (fun as m R hG => ?_) (fun cdv A outer s H E hr => ?_)
  · obtain ⟨v_one, v_other, v_price, v_paper, v_lists, v_least, r_, _, rfl, _⟩ := hG
    rfl
  · have nd : (N_m_law_right : List Str).Nodup := sc_m_law_right.nd
    refine ⟨_, (pss_cons (ps_set (i := 6) nd rfl (Or.inl rfl) (pe_call G_m_law_keeps (hr.mono (by decide)) (by rfl) g_m_law_keeps k_m_law_keeps b_m_law_keeps .nil pass0 (pa_cons (pv 0) (pa_cons (pv 1) (pa_cons (pv 2) (pa_cons (pv 3) pa_nil))))))
      (pss_cons (ps_set (i := 7) nd rfl (Or.inl rfl) (pe_op op_add (pe_callB (kCa (r := rSum) (K := K) (cr_sum rfl) rfl) (by rfl) n_sum (by decide +kernel) (pa_cons (pe_ix (kIx (r := rIxT) (K := K) ix_tup rfl) (pv 3) pe_int (fun _ _ => rfl)) pa_nil)) (pe_callB (kCa (r := rSum) (K := K) (cr_sum rfl) rfl) (by rfl) n_sum (by decide +kernel) (pa_cons (pe_ix (kIx (r := rIxT) (K := K) ix_tup rfl) (pv 3) pe_int (fun _ _ => rfl)) pa_nil))))
      (pss_cons (ps_if (PW.pt (pw_and (pt_val (pv 6)) (pw_and1 (pt_cmpR op_gt (pv 7) (pv 5) (nomark _))))) (pss_cons (ps_ret pe_bl) pss_nil) pss_nil)
      (pss_cons (ps_for PassesOwn.never rfl (kPi (r := fun K => iList K _) (K := K) (pi_list (pv 4)) rfl) (pg_name (i := 8) nd rfl (by first | exact Or.inl rfl | exact Or.inr rfl))
      (pss_cons (ps_set (i := 9) nd rfl (Or.inl rfl) (pe_call G_m_law_cost (hr.mono (by decide)) (by rfl) g_m_law_cost k_m_law_cost b_m_law_cost .nil pass0 (pa_cons (pv 0) (pa_cons (pv 1) (pa_cons (pv 2) (pa_cons (pv 8) pa_nil))))))
      (pss_cons (ps_set (i := 10) nd rfl (Or.inl rfl) (pe_call G_m_shows_change (hr.mono (by decide)) (by rfl) g_m_shows_change k_m_shows_change b_m_shows_change .nil pass0 (pa_cons (pv 0) (pa_cons (pv 1) (pa_cons (pv 2) (pa_cons (pv 8) (pa_cons (pv 3) pa_nil)))))))
      (pss_cons (ps_if (PW.pt (pw_or (pt_not (pt_val (pe_callB (kCa (r := rIsi) (K := K) call_isi rfl) (by rfl) n_isinstance (by decide +kernel) (pa_cons (pv 10) (pa_cons (pe_bltn (v := .ty "bool") (by rfl) n_bool (by decide +kernel) rfl) pa_nil))))) (pw_or (pt_cmpR op_ne (pv 10) (pe_and (pv 6) (pe_one (pe_cmpR op_eq (pv 9) (pv 7) (nomark _)))) (nomark _)) (pw_or1 (PW.pt (pw_and (pt_val (pv 10)) (pw_and1 (pt_cmpR op_ne (pv 9) (pv 5) (nomark _))))))))) (pss_cons (ps_ret pe_bl) pss_nil) pss_nil)
      pss_nil))))
      (pss_cons (ps_ret pe_bl) pss_nil))))), ?_⟩
    rintro as m R ⟨v_one, v_other, v_price, v_paper, v_lists, v_least, r_, h0, rfl, rfl, rfl⟩ F D rfl hk hfin hnx
    unfold m_law_right at h0
    show Wp _ _ _ [.da ((dL (dU dI)) v_one), .da ((dL (dU dI)) v_other), .da (dI v_price), .da ((dP (dL dI) (dL dI)) v_paper), .da ((dL (dL (dP dI dI))) v_lists), .da (dI v_least), .un, .un, .un, .un, .un] []
    obtain ⟨t1, q2, h0⟩ := bindS h0
    refine wp_asg (i := 6) (ev_call (ea_cons (ev_var (i := 0) rfl) (ea_cons (ev_var (i := 1) rfl) (ea_cons (ev_var (i := 2) rfl) (ea_cons (ev_var (i := 3) rfl) ea_nil)))) ⟨_, ⟨_, _, _, _, _, q2, rfl, rfl, rfl⟩, fun _ _ h => h⟩) ?_
    show Wp _ _ _ [.da ((dL (dU dI)) v_one), .da ((dL (dU dI)) v_other), .da (dI v_price), .da ((dP (dL dI) (dL dI)) v_paper), .da ((dL (dL (dP dI dI))) v_lists), .da (dI v_least), .da (dB t1), .un, .un, .un, .un] []
    obtain ⟨v_total3, q4, h0⟩ := bindS h0
    refine wp_asg (i := 7) (ev_eq (f := dI) (ev_op (ev_cb (ea_cons (ev_op (ev_var (i := 3) rfl) (ev_int (i := 0)) (rr_ixT (dl := [(dL dI) (v_paper).1, (dL dI) (v_paper).2]) rfl)) ea_nil) rc_sum) (ev_cb (ea_cons (ev_op (ev_var (i := 3) rfl) (ev_int (i := 1)) (rr_ixT (dl := [(dL dI) (v_paper).1, (dL dI) (v_paper).2]) rfl)) ea_nil) rc_sum) rr_i) (Option.some.inj q4)) ?_
    show Wp _ _ _ [.da ((dL (dU dI)) v_one), .da ((dL (dU dI)) v_other), .da (dI v_price), .da ((dP (dL dI) (dL dI)) v_paper), .da ((dL (dL (dP dI dI))) v_lists), .da (dI v_least), .da (dB t1), .da (dI v_total3), .un, .un, .un] []
    refine wp_if (et_andP (et_val (ev_var (i := 6) rfl)) (et_test (ev_op (ev_var (i := 7) rfl) (ev_var (i := 5) rfl) (rr_b (f := fun i j => decide (j < i)))))) (fun hc => ?_) (fun hc => ?_)
    · have h0 := condT hc h0
      have e0_ := Option.some.inj h0
      subst e0_
      exact wp_retS ev_bl hfin ⟨rfl, rfl⟩ (List.nil_sublist _)
    · have h0 := condF hc h0
      refine wp_next ?_
      obtain ⟨k16, q15, h0⟩ := bindS h0
      refine wp_forC (fun (s_ : Unit) => [.da ((dL (dU dI)) v_one), .da ((dL (dU dI)) v_other), .da (dI v_price), .da ((dP (dL dI) (dL dI)) v_paper), .da ((dL (dL (dP dI dI))) v_lists), .da (dI v_least), .da (dB t1), .da (dI v_total3), .un, .un, .un]) (fun (s_ : Unit) => []) (src_L (f := (dL (dP dI dI))) (j := 8) (ev_var (i := 4) rfl)) q15 (.cons .rfl (.cons .rfl (.cons .rfl (.cons .rfl (.cons .rfl (.cons .rfl (.cons .rfl (.cons .rfl (.cons .un (.cons .un (.cons .un Wks.nil))))))))))) rfl (fun _ => True.intro) ?_ ?_
      · rintro lo1 ⟨⟩ v_pairs5 c_ hx1 h1 D1 he1 hn1 hct1 hbk1 hret1
        show Wp _ _ _ [.da ((dL (dU dI)) v_one), .da ((dL (dU dI)) v_other), .da (dI v_price), .da ((dP (dL dI) (dL dI)) v_paper), .da ((dL (dL (dP dI dI))) v_lists), .da (dI v_least), .da (dB t1), .da (dI v_total3), .da ((dL (dP dI dI)) v_pairs5), .un, .un] []
        obtain ⟨t10, q11, h1⟩ := bindS h1
        refine wp_asg (i := 9) (ev_call (ea_cons (ev_var (i := 0) rfl) (ea_cons (ev_var (i := 1) rfl) (ea_cons (ev_var (i := 2) rfl) (ea_cons (ev_var (i := 8) rfl) ea_nil)))) ⟨_, ⟨_, _, _, _, _, q11, rfl, rfl, rfl⟩, fun _ _ h => h⟩) ?_
        show Wp _ _ _ [.da ((dL (dU dI)) v_one), .da ((dL (dU dI)) v_other), .da (dI v_price), .da ((dP (dL dI) (dL dI)) v_paper), .da ((dL (dL (dP dI dI))) v_lists), .da (dI v_least), .da (dB t1), .da (dI v_total3), .da ((dL (dP dI dI)) v_pairs5), .da (dI t10), .un] []
        obtain ⟨t12, q13, h1⟩ := bindS h1
        refine wp_asg (i := 10) (ev_call (ea_cons (ev_var (i := 0) rfl) (ea_cons (ev_var (i := 1) rfl) (ea_cons (ev_var (i := 2) rfl) (ea_cons (ev_var (i := 8) rfl) (ea_cons (ev_var (i := 3) rfl) ea_nil))))) ⟨_, ⟨_, _, _, _, _, _, q13, rfl, rfl, rfl⟩, fun _ _ h => h⟩) ?_
        show Wp _ _ _ [.da ((dL (dU dI)) v_one), .da ((dL (dU dI)) v_other), .da (dI v_price), .da ((dP (dL dI) (dL dI)) v_paper), .da ((dL (dL (dP dI dI))) v_lists), .da (dI v_least), .da (dB t1), .da (dI v_total3), .da ((dL (dP dI dI)) v_pairs5), .da (dI t10), .da (dB t12)] []
        refine wp_if (et_orP (et_not (et_val (ev_isi (T := "bool") (b := true) (d := dB t12) (ev_var (i := 10) rfl) (show kitB "bool" "bool" = some true by decide +kernel)))) (et_orP (et_test (ev_op (ev_var (i := 10) rfl) (ev_andP (ev_var (i := 6) rfl) (ev_op (ev_var (i := 9) rfl) (ev_var (i := 7) rfl) rr_eqI)) rr_neB)) (et_andP (et_val (ev_var (i := 10) rfl)) (et_test (ev_op (ev_var (i := 9) rfl) (ev_var (i := 5) rfl) rr_neI))))) (fun hc => ?_) (fun hc => ?_)
        · have h1 := condT hc h1
          cases h1
          have g1 := ctlK_rt (hret1 _ rfl) h0
          have e0_ := Option.some.inj g1
          subst e0_
          exact wp_retS ev_bl (fin_at hfin he1) ⟨rfl, rfl⟩ (List.nil_sublist _)
        · have h1 := condF hc h1
          refine wp_next ?_
          cases h1
          exact wp_next fun σ H a => (hn1 _ rfl) σ H (at_weak (.cons .rfl (.cons .rfl (.cons .rfl (.cons .rfl (.cons .rfl (.cons .rfl (.cons .rfl (.cons .rfl (.cons .un (.cons .un (.cons .un Wks.nil))))))))))) a)
      · rintro ⟨⟩ hk_
        have h0 := ctlK_go hk_ h0
        show Wp _ _ _ [.da ((dL (dU dI)) v_one), .da ((dL (dU dI)) v_other), .da (dI v_price), .da ((dP (dL dI) (dL dI)) v_paper), .da ((dL (dL (dP dI dI))) v_lists), .da (dI v_least), .da (dB t1), .da (dI v_total3), .un, .un, .un] []
        have e0_ := Option.some.inj h0
        subst e0_
        exact wp_retS ev_bl hfin ⟨rfl, rfl⟩ (List.nil_sublist _)
end K92
set_option maxHeartbeats 2000000
namespace K92
open PySem PySem.Spec PyProof.Rows L2 Evl FC
theorem ok_m_law {P : Program} {w : World} {K : PySem.W.Frag} {mg : Str → Option Value} {base : Heap} {f : Addr} {fd : FuncData} (FF : Fun K "law" "law" sm_law f fd) {f_m_law_all_pairs : Addr} {fd_m_law_all_pairs : FuncData} (G_m_law_all_pairs : FnOk P w K mg base CX0 1 f_m_law_all_pairs fd_m_law_all_pairs ["many", "others"] (spOf K (pf_m_law_all_pairs))) (g_m_law_all_pairs : mg "_law_all_pairs" = some (.ref f_m_law_all_pairs)) (k_m_law_all_pairs : PySem.W.keepIn K (.ref f_m_law_all_pairs) = true) (b_m_law_all_pairs : Binds K fd_m_law_all_pairs ["many", "others"] []) {f_m_law_cost : Addr} {fd_m_law_cost : FuncData} (G_m_law_cost : FnOk P w K mg base CX0 2 f_m_law_cost fd_m_law_cost ["one", "other", "price", "pairs"] (spOf K (pf_m_law_cost))) (g_m_law_cost : mg "_law_cost" = some (.ref f_m_law_cost)) (k_m_law_cost : PySem.W.keepIn K (.ref f_m_law_cost) = true) (b_m_law_cost : Binds K fd_m_law_cost ["one", "other", "price", "pairs"] []) {f_m_law_drawn : Addr} {fd_m_law_drawn : FuncData} (G_m_law_drawn : FnOk P w K mg base CX0 3 f_m_law_drawn fd_m_law_drawn ["left", "one", "other", "price", "paper"] (spOf K (pf_m_law_drawn))) (g_m_law_drawn : mg "_law_drawn" = some (.ref f_m_law_drawn)) (k_m_law_drawn : PySem.W.keepIn K (.ref f_m_law_drawn) = true) (b_m_law_drawn : Binds K fd_m_law_drawn ["left", "one", "other", "price", "paper"] []) {f_m_law_left : Addr} {fd_m_law_left : FuncData} (G_m_law_left : FnOk P w K mg base CX0 1 f_m_law_left fd_m_law_left ["script", "k"] (spOf K (pf_m_law_left))) (g_m_law_left : mg "_law_left" = some (.ref f_m_law_left)) (k_m_law_left : PySem.W.keepIn K (.ref f_m_law_left) = true) (b_m_law_left : Binds K fd_m_law_left ["script", "k"] []) {f_m_law_price : Addr} {fd_m_law_price : FuncData} (G_m_law_price : FnOk P w K mg base CX0 3 f_m_law_price fd_m_law_price ["left", "one", "other"] (spOf K (pf_m_law_price))) (g_m_law_price : mg "_law_price" = some (.ref f_m_law_price)) (k_m_law_price : PySem.W.keepIn K (.ref f_m_law_price) = true) (b_m_law_price : Binds K fd_m_law_price ["left", "one", "other"] []) {f_m_law_right : Addr} {fd_m_law_right : FuncData} (G_m_law_right : FnOk P w K mg base CX0 5 f_m_law_right fd_m_law_right ["one", "other", "price", "paper", "lists", "least"] (spOf K (pf_m_law_right))) (g_m_law_right : mg "_law_right" = some (.ref f_m_law_right)) (k_m_law_right : PySem.W.keepIn K (.ref f_m_law_right) = true) (b_m_law_right : Binds K fd_m_law_right ["one", "other", "price", "paper", "lists", "least"] []) {f_m_law_two : Addr} {fd_m_law_two : FuncData} (G_m_law_two : FnOk P w K mg base CX0 5 f_m_law_two fd_m_law_two ["left", "most"] (spOf K (pf_m_law_two))) (g_m_law_two : mg "_law_two" = some (.ref f_m_law_two)) (k_m_law_two : PySem.W.keepIn K (.ref f_m_law_two) = true) (b_m_law_two : Binds K fd_m_law_two ["left", "most"] []) {f_m_change_paper : Addr} {fd_m_change_paper : FuncData} (G_m_change_paper : FnOk P w K mg base CX0 6 f_m_change_paper fd_m_change_paper ["one", "other", "price"] (spOf K (pf_m_change_paper))) (g_m_change_paper : mg "change_paper" = some (.ref f_m_change_paper)) (k_m_change_paper : PySem.W.keepIn K (.ref f_m_change_paper) = true) (b_m_change_paper : Binds K fd_m_change_paper ["one", "other", "price"] []) {f_m_least_change : Addr} {fd_m_least_change : FuncData} (G_m_least_change : FnOk P w K mg base CX0 5 f_m_least_change fd_m_least_change ["one", "other", "price"] (spOf K (pf_m_least_change))) (g_m_least_change : mg "least_change" = some (.ref f_m_least_change)) (k_m_least_change : PySem.W.keepIn K (.ref f_m_least_change) = true) (b_m_least_change : Binds K fd_m_least_change ["one", "other", "price"] []) {f_m_shows_change : Addr} {fd_m_shows_change : FuncData} (G_m_shows_change : FnOk P w K mg base CX0 4 f_m_shows_change fd_m_shows_change ["one", "other", "price", "pairs", "paper"] (spOf K (pf_m_shows_change))) (g_m_shows_change : mg "shows_change" = some (.ref f_m_shows_change)) (k_m_shows_change : PySem.W.keepIn K (.ref f_m_shows_change) = true) (b_m_shows_change : Binds K fd_m_shows_change ["one", "other", "price", "pairs", "paper"] []) (n_len : mg "len" = none) (n_max : mg "max" = none) (n_min : mg "min" = none) (n_range : mg "range" = none) (n_sorted : mg "sorted" = none) (n_sum : mg "sum" = none) : FnOk P w K mg base CX0 7 f fd ["script"] (spOf K (pf_m_law)) := by
  refine ok_of (N := N_m_law) FF sc_m_law (fun as m R hG => ?_) (fun cdv A outer s H E hr => ?_)
  · obtain ⟨l_script, v_script, r_, _, rfl, _⟩ := hG
    rfl
  · have nd : (N_m_law : List Str).Nodup := sc_m_law.nd
    refine ⟨_, (pss_cons (ps_for PassesOwn.never rfl (pi_range1 (by rfl) n_range (pa_cons (pe_callB (call_max2 rfl) (by rfl) n_max (by decide +kernel) (pa_cons pe_int (pa_cons (pe_callB (call_min2 rfl) (by rfl) n_min (by decide +kernel) (pa_cons (pe_callB (kCa (r := rLenA) (K := K) call_len_seq rfl) (by rfl) n_len (by decide +kernel) (pa_cons (pv 0) pa_nil)) (pa_cons pe_int pa_nil))) pa_nil))) pa_nil)) (pg_name (i := 1) nd rfl (by first | exact Or.inl rfl | exact Or.inr rfl))
      (pss_cons (ps_set (i := 2) nd rfl (Or.inl rfl) (pe_call G_m_law_left (hr.mono (by decide)) (by rfl) g_m_law_left k_m_law_left b_m_law_left .nil pass0 (pa_cons (pv 0) (pa_cons (pv 1) pa_nil))))
      (pss_cons (ps_asg (pe_call G_m_law_two (hr.mono (by decide)) (by rfl) g_m_law_two k_m_law_two b_m_law_two .nil pass0 (pa_cons (pv 2) (pa_cons pe_int pa_nil))) (pg_tup rfl (pgs_cons (pg_name (i := 3) nd rfl (Or.inr rfl)) (pgs_cons (pg_name (i := 4) nd rfl (Or.inr rfl)) pgs_nil))))
      (pss_cons (ps_set (i := 5) nd rfl (Or.inr rfl) (pe_call G_m_law_price (hr.mono (by decide)) (by rfl) g_m_law_price k_m_law_price b_m_law_price .nil pass0 (pa_cons (pv 2) (pa_cons (pv 3) (pa_cons (pv 4) pa_nil)))))
      (pss_cons (ps_set (i := 6) nd rfl (Or.inl rfl) (pe_call G_m_law_all_pairs (hr.mono (by decide)) (by rfl) g_m_law_all_pairs k_m_law_all_pairs b_m_law_all_pairs .nil pass0 (pa_cons (pe_callB (kCa (r := rLenA) (K := K) call_len_seq rfl) (by rfl) n_len (by decide +kernel) (pa_cons (pv 3) pa_nil)) (pa_cons (pe_callB (kCa (r := rLenA) (K := K) call_len_seq rfl) (by rfl) n_len (by decide +kernel) (pa_cons (pv 4) pa_nil)) pa_nil))))
      (pss_cons (ps_set (i := 7) nd rfl (Or.inl rfl) (pe_callB (kCa (r := rMinP) (K := K) (cr_minP rfl hr.units) rfl) (by rfl) n_min (by decide +kernel) (pa_cons (pe_lc (own := [("pairs", 14)]) (g := gName 14) (tt := tYes) rfl nd (kPi (r := fun K => iList K _) (K := K) (pi_list (pv 6)) rfl) (blkOk_by (own := [("pairs", 14)]) (N := N_m_law) (sc := (defScope sm_law)) (by decide +kernel)) (fun _ _ _ _ _ => (pg_name (i := 14) nd rfl (by first | exact Or.inl rfl | exact Or.inr rfl))) (fun _ _ _ _ _ => pts_nil) (fun _ _ _ _ _ => (pe_call G_m_law_cost (hr.mono (by decide)) (by rfl) g_m_law_cost k_m_law_cost b_m_law_cost .nil pass0 (pa_cons (pv 3) (pa_cons (pv 4) (pa_cons (pv 5) (pa_cons (pv 14) pa_nil))))))) pa_nil)))
      (pss_cons (ps_set (i := 8) nd rfl (Or.inl rfl) (pe_call G_m_change_paper (hr.mono (by decide)) (by rfl) g_m_change_paper k_m_change_paper b_m_change_paper .nil pass0 (pa_cons (pv 3) (pa_cons (pv 4) (pa_cons (pv 5) pa_nil)))))
      (pss_cons (ps_if (PW.pt (pw_or (pt_cmpR op_ne (pe_op op_add (pe_callB (kCa (r := rSum) (K := K) (cr_sum rfl) rfl) (by rfl) n_sum (by decide +kernel) (pa_cons (pe_ix (kIx (r := rIxT) (K := K) ix_tup rfl) (pv 8) pe_int (fun _ _ => rfl)) pa_nil)) (pe_callB (kCa (r := rSum) (K := K) (cr_sum rfl) rfl) (by rfl) n_sum (by decide +kernel) (pa_cons (pe_ix (kIx (r := rIxT) (K := K) ix_tup rfl) (pv 8) pe_int (fun _ _ => rfl)) pa_nil))) (pv 7) (nomark _)) (pw_or1 (pt_not (pt_val (pe_call G_m_law_right (hr.mono (by decide)) (by rfl) g_m_law_right k_m_law_right b_m_law_right .nil pass0 (pa_cons (pv 3) (pa_cons (pv 4) (pa_cons (pv 5) (pa_cons (pv 8) (pa_cons (pv 6) (pa_cons (pv 7) pa_nil)))))))))))) (pss_cons (ps_ret pe_bl) pss_nil) pss_nil)
      (pss_cons (ps_setLc (i := 9) (own := [("i", 12), ("j", 13)]) (g := gTup K 2 (gCons (gName 12) (gCons (gName 13) gNil))) (tt := tYes) rfl nd rfl rfl (sw_true rfl rfl rfl (by decide +kernel)) (kPi (r := fun K => iList K _) (K := K) (pi_list (pe_ix (kIx (r := rIxT) (K := K) ix_tup rfl) (pe_call G_m_least_change (hr.mono (by decide)) (by rfl) g_m_least_change k_m_least_change b_m_least_change .nil pass0 (pa_cons (pv 3) (pa_cons (pv 4) (pa_cons (pv 5) pa_nil)))) pe_int (fun _ _ => rfl))) rfl) (blkOk_by (own := [("i", 12), ("j", 13)]) (N := N_m_law) (sc := (defScope sm_law)) (by decide +kernel)) (fun _ _ _ _ _ => (pg_tup rfl (pgs_cons (pg_name (i := 12) nd rfl (by first | exact Or.inl rfl | exact Or.inr rfl)) (pgs_cons (pg_name (i := 13) nd rfl (by first | exact Or.inl rfl | exact Or.inr rfl)) pgs_nil)))) (fun _ _ _ _ _ => pts_nil) (fun _ _ _ _ _ => (pe_tup (pa_cons (pv 13) (pa_cons (pv 12) pa_nil)))))
      (pss_cons (ps_if (pt_cmpR op_isnot_bl (pe_call G_m_shows_change (hr.mono (by decide)) (by rfl) g_m_shows_change k_m_shows_change b_m_shows_change .nil pass0 (pa_cons (pv 4) (pa_cons (pv 3) (pa_cons (pv 5) (pa_cons (pe_callB (kCa (r := rSrtP) (K := K) (cr_srtP hr.units) rfl) (by rfl) n_sorted (by decide +kernel) (pa_cons (pv 9) pa_nil)) (pa_cons (pe_tup (pa_cons (pe_ix (kIx (r := rIxT) (K := K) ix_tup rfl) (pv 8) pe_int (fun _ _ => rfl)) (pa_cons (pe_ix (kIx (r := rIxT) (K := K) ix_tup rfl) (pv 8) pe_int (fun _ _ => rfl)) pa_nil))) pa_nil)))))) pe_bl (nomark _)) (pss_cons (ps_ret pe_bl) pss_nil) pss_nil)
      (pss_cons (ps_for PassesOwn.never rfl (pi_range1 (by rfl) n_range (pa_cons pe_int pa_nil)) (pg_name (i := 10) nd rfl (by first | exact Or.inl rfl | exact Or.inr rfl))
      (pss_cons (ps_set (i := 11) nd rfl (Or.inl rfl) (pe_call G_m_law_drawn (hr.mono (by decide)) (by rfl) g_m_law_drawn k_m_law_drawn b_m_law_drawn .nil pass0 (pa_cons (pv 2) (pa_cons (pv 3) (pa_cons (pv 4) (pa_cons (pv 5) (pa_cons (pv 8) pa_nil)))))))
      (pss_cons (ps_if (pt_not (pt_val (pe_call G_m_law_right (hr.mono (by decide)) (by rfl) g_m_law_right k_m_law_right b_m_law_right .nil pass0 (pa_cons (pv 3) (pa_cons (pv 4) (pa_cons (pv 5) (pa_cons (pv 11) (pa_cons (kPe (r := fun K => tSlX K _ _ _ _) (K := K) (pe_sliceX (pv 6) (po_some (pe_op op_mod (pv 10) pe_int)) po_none (po_some pe_int)) rfl) (pa_cons (pv 7) pa_nil))))))))) (pss_cons (ps_ret pe_bl) pss_nil) pss_nil)
      pss_nil)))
      pss_nil)))))))))))
      (pss_cons (ps_ret pe_bl) pss_nil)), ?_⟩
    rintro as m R ⟨l_script, v_script, r_, h0, rfl, rfl, rfl⟩ F D rfl hk hfin hnx
    unfold m_law at h0
    show Wp _ _ _ [.sl l_script v_script, .un, .un, .un, .un, .un, .un, .un, .un, .un, .un, .un, .un, .un, .un] []
    obtain ⟨rg1, q2, h0⟩ := bindS h0
    obtain ⟨k126, q125, h0⟩ := bindS h0
    refine wp_forC (fun (s_ : Unit) => [.sl l_script v_script, .un, .un, .un, .un, .un, .un, .un, .un, .un, .un, .un, .un, .un, .un]) (fun (s_ : Unit) => []) (src_R1 (j := 1) (ea_cons (ev_cb (ea_cons (ev_int (i := 1)) (ea_cons (ev_cb (ea_cons (ev_cb (ea_cons (ev_sc (i := 0) rfl) ea_nil) rc_lenSc) (ea_cons (ev_int (i := 2)) ea_nil)) rc_min2) ea_nil)) rc_max2) ea_nil) q2) q125 (.cons .rfl (.cons .un (.cons .un (.cons .un (.cons .un (.cons .un (.cons .un (.cons .un (.cons .un (.cons .un (.cons .un (.cons .un (.cons .un (.cons .un (.cons .un Wks.nil))))))))))))))) rfl (fun _ => True.intro) ?_ ?_
    · rintro lo1 ⟨⟩ v_k3 c_ hx1 h1 D1 he1 hn1 hct1 hbk1 hret1
      show Wp _ _ _ [.sl l_script v_script, .da (dI v_k3), .un, .un, .un, .un, .un, .un, .un, .un, .un, .un, .un, .un, .un] []
      obtain ⟨c65, q66, h1⟩ := bindS h1
      refine wp_asgN (i := 2) (en_callP (mc := []) (mc' := []) (fr := []) (cd := .ls (List.map dI c65)) (m2 := []) (ea_cons (ev_sc (i := 0) rfl) (ea_cons (ev_var (i := 1) rfl) ea_nil)) (perm_ix (n := 0) [] rfl (by decide) rfl) (perm_ix (n := 0) [] rfl (by decide) rfl) ⟨_, ⟨_, _, _, _, q66, rfl, rfl, rfl⟩, fun _ _ h => h⟩) (fun l_64 nk_l_64 => ?_) rfl
      show Wp _ _ _ [.sl l_script v_script, .da (dI v_k3), .rf l_64, .un, .un, .un, .un, .un, .un, .un, .un, .un, .un, .un, .un] [(l_64, .ls (List.map dI c65))]
      obtain ⟨⟨t67, c68⟩, q69, h1⟩ := bindS h1
      refine wp_unp2 (f := (dL (dU dI))) (g := (dL (dU dI))) (i := 3) (j := 4) (ev_call1 0 (ea_cons (ev_rf (i := 2) rfl) (ea_cons (ev_int (i := 4)) ea_nil)) rfl ⟨_, ⟨_, _, _, _, _, q69, rfl, rfl, rfl⟩, fun _ _ h => h⟩) ?_
      show Wp _ _ _ [.sl l_script v_script, .da (dI v_k3), .rf l_64, .da ((dL (dU dI)) (t67).1), .da ((dL (dU dI)) (t67).2), .un, .un, .un, .un, .un, .un, .un, .un, .un, .un] [(l_64, .ls (List.map dI c68))]
      obtain ⟨⟨t70, c71⟩, q72, h1⟩ := bindS h1
      refine wp_asg (i := 5) (ev_call1 0 (ea_cons (ev_rf (i := 2) rfl) (ea_cons (ev_var (i := 3) rfl) (ea_cons (ev_var (i := 4) rfl) ea_nil))) rfl ⟨_, ⟨_, _, _, _, _, _, q72, rfl, rfl, rfl⟩, fun _ _ h => h⟩) ?_
      show Wp _ _ _ [.sl l_script v_script, .da (dI v_k3), .rf l_64, .da ((dL (dU dI)) (t67).1), .da ((dL (dU dI)) (t67).2), .da (dI t70), .un, .un, .un, .un, .un, .un, .un, .un, .un] [(l_64, .ls (List.map dI c71))]
      obtain ⟨t73, q74, h1⟩ := bindS h1
      refine wp_asg (i := 6) (ev_call (ea_cons (ev_cb (ea_cons (ev_var (i := 3) rfl) ea_nil) (rc_lenL (f := (dU dI)))) (ea_cons (ev_cb (ea_cons (ev_var (i := 4) rfl) ea_nil) (rc_lenL (f := (dU dI)))) ea_nil)) ⟨_, ⟨_, _, _, q74, rfl, rfl, rfl⟩, fun _ _ h => h⟩) ?_
      show Wp _ _ _ [.sl l_script v_script, .da (dI v_k3), .rf l_64, .da ((dL (dU dI)) (t67).1), .da ((dL (dU dI)) (t67).2), .da (dI t70), .da ((dL (dL (dP dI dI))) t73), .un, .un, .un, .un, .un, .un, .un, .un] [(l_64, .ls (List.map dI c71))]
      obtain ⟨u78, q79, h1⟩ := bindS h1
      obtain ⟨o80, q81, h1⟩ := bindS h1
      obtain ⟨t82, q83, h1⟩ := bindS h1
      refine wp_asg (i := 7) (ev_cb (ea_cons (lc_end (lc_map (f2 := dI) (src_L (f := (dL (dP dI dI))) (j := 14) (ev_var (i := 6) rfl)) (by decide) (fun _ => True.intro) q79 q81 (by rintro v_pairs75 y_ hx_ h_; obtain ⟨t76, q77, h_⟩ := bindS h_; cases h_; exact (ev_call (ea_cons (ev_var (i := 3) rfl) (ea_cons (ev_var (i := 4) rfl) (ea_cons (ev_var (i := 5) rfl) (ea_cons (ev_var (i := 14) rfl) ea_nil)))) ⟨_, ⟨_, _, _, _, _, q77, rfl, rfl, rfl⟩, fun _ _ h => h⟩)))) ea_nil) (rc_min (f := dI) (by decide) q83)) ?_
      show Wp _ _ _ [.sl l_script v_script, .da (dI v_k3), .rf l_64, .da ((dL (dU dI)) (t67).1), .da ((dL (dU dI)) (t67).2), .da (dI t70), .da ((dL (dL (dP dI dI))) t73), .da (dI t82), .un, .un, .un, .un, .un, .un, .un] [(l_64, .ls (List.map dI c71))]
      obtain ⟨t84, q85, h1⟩ := bindS h1
      refine wp_asg (i := 8) (ev_call (ea_cons (ev_var (i := 3) rfl) (ea_cons (ev_var (i := 4) rfl) (ea_cons (ev_var (i := 5) rfl) ea_nil))) ⟨_, ⟨_, _, _, _, q85, rfl, rfl, rfl⟩, fun _ _ h => h⟩) ?_
      show Wp _ _ _ [.sl l_script v_script, .da (dI v_k3), .rf l_64, .da ((dL (dU dI)) (t67).1), .da ((dL (dU dI)) (t67).2), .da (dI t70), .da ((dL (dL (dP dI dI))) t73), .da (dI t82), .da ((dP (dL dI) (dL dI)) t84), .un, .un, .un, .un, .un, .un] [(l_64, .ls (List.map dI c71))]
      obtain ⟨b88, q89, h1⟩ := bindS h1
      refine wp_if (et_or (k2 := b88) (m' := [(l_64, .ls (List.map dI c71))]) (et_test (ev_op (ev_op (ev_cb (ea_cons (ev_op (ev_var (i := 8) rfl) (ev_int (i := 0)) (rr_ixT (dl := [(dL dI) (t84).1, (dL dI) (t84).2]) rfl)) ea_nil) rc_sum) (ev_cb (ea_cons (ev_op (ev_var (i := 8) rfl) (ev_int (i := 1)) (rr_ixT (dl := [(dL dI) (t84).1, (dL dI) (t84).2]) rfl)) ea_nil) rc_sum) rr_i) (ev_var (i := 7) rfl) rr_neI)) (fun e => by have h_ := condF e q89; obtain ⟨t86, q87, h_⟩ := bindS h_; cases h_; exact (et_not (et_val (ev_call (ea_cons (ev_var (i := 3) rfl) (ea_cons (ev_var (i := 4) rfl) (ea_cons (ev_var (i := 5) rfl) (ea_cons (ev_var (i := 8) rfl) (ea_cons (ev_var (i := 6) rfl) (ea_cons (ev_var (i := 7) rfl) ea_nil)))))) ⟨_, ⟨_, _, _, _, _, _, _, q87, rfl, rfl, rfl⟩, fun _ _ h => h⟩)))) (fun e => by have h_ := condT e q89; cases h_; exact ⟨rfl, rfl⟩)) (fun hc => ?_) (fun hc => ?_)
      · have h1 := condT hc h1
        cases h1
        have g1 := ctlK_rt (hret1 _ rfl) h0
        have e0_ := Option.some.inj g1
        subst e0_
        exact wp_retS ev_bl (fin_at hfin he1) ⟨rfl, rfl⟩ (List.nil_sublist _)
      · have h1 := condF hc h1
        refine wp_next ?_
        obtain ⟨t90, q91, h1⟩ := bindS h1
        obtain ⟨u93, q94, h1⟩ := bindS h1
        obtain ⟨v_about95, q96, h1⟩ := bindS h1
        refine wp_asg (i := 9) (ev_eq (f := (dL (dP dI dI))) (lc_end (lc_map (f2 := (dP dI dI)) (step := fun x => some ((fun (p_ : (Int × Int)) => (fun (v_i92 : Int) (v_j92 : Int) => (v_j92, v_i92)) p_.1 p_.2) x)) (src_LP (f := dI) (f2 := dI) (j := 12) (k := 13) (ev_op (ev_call (ea_cons (ev_var (i := 3) rfl) (ea_cons (ev_var (i := 4) rfl) (ea_cons (ev_var (i := 5) rfl) ea_nil))) ⟨_, ⟨_, _, _, _, q91, rfl, rfl, rfl⟩, fun _ _ h => h⟩) (ev_int (i := 1)) (rr_ixT (dl := [dI (t90).1, (dL (dP dI dI)) (t90).2]) rfl))) (by decide) (fun _ => True.intro) q94 (mapO_pure _) (by rintro ⟨v_i92, v_j92⟩ y_ hx_ h_; cases h_; exact (show Ev _ _ _ _ (.da ((dP dI dI) (v_j92, v_i92))) _ from ev_tup (dl := [dI v_j92, dI v_i92]) (ea_cons (ev_var (i := 13) rfl) (ea_cons (ev_var (i := 12) rfl) ea_nil)) (Nat.le_of_ble_eq_true rfl))))) (Option.some.inj q96)) ?_
        show Wp _ _ _ [.sl l_script v_script, .da (dI v_k3), .rf l_64, .da ((dL (dU dI)) (t67).1), .da ((dL (dU dI)) (t67).2), .da (dI t70), .da ((dL (dL (dP dI dI))) t73), .da (dI t82), .da ((dP (dL dI) (dL dI)) t84), .da ((dL (dP dI dI)) v_about95), .un, .un, .un, .un, .un] [(l_64, .ls (List.map dI c71))]
        obtain ⟨t97, q98, h1⟩ := bindS h1
        refine wp_if (et_test (ev_op (ev_call (ea_cons (ev_var (i := 4) rfl) (ea_cons (ev_var (i := 3) rfl) (ea_cons (ev_var (i := 5) rfl) (ea_cons (ev_cb (ea_cons (ev_var (i := 9) rfl) ea_nil) (rc_srt (f := (dP dI dI)) (by decide))) (ea_cons (show Ev _ _ _ _ (.da ((dP (dL dI) (dL dI)) ((t84).2, (t84).1))) _ from ev_tup (dl := [(dL dI) (t84).2, (dL dI) (t84).1]) (ea_cons (ev_op (ev_var (i := 8) rfl) (ev_int (i := 1)) (rr_ixT (dl := [(dL dI) (t84).1, (dL dI) (t84).2]) rfl)) (ea_cons (ev_op (ev_var (i := 8) rfl) (ev_int (i := 0)) (rr_ixT (dl := [(dL dI) (t84).1, (dL dI) (t84).2]) rfl)) ea_nil)) (Nat.le_of_ble_eq_true rfl)) ea_nil))))) ⟨_, ⟨_, _, _, _, _, _, q98, rfl, rfl, rfl⟩, fun _ _ h => h⟩) ev_bl rr_isNB)) (fun hc => ?_) (fun hc => ?_)
        · have h1 := condT hc h1
          cases h1
          have g1 := ctlK_rt (hret1 _ rfl) h0
          have e0_ := Option.some.inj g1
          subst e0_
          exact wp_retS ev_bl (fin_at hfin he1) ⟨rfl, rfl⟩ (List.nil_sublist _)
        · have h1 := condF hc h1
          refine wp_next ?_
          obtain ⟨rg99, q100, h1⟩ := bindS h1
          obtain ⟨k123, q122, h1⟩ := bindS h1
          refine wp_forC (fun (s_ : (List Int)) => [.sl l_script v_script, .da (dI v_k3), .rf l_64, .da ((dL (dU dI)) (t67).1), .da ((dL (dU dI)) (t67).2), .da (dI t70), .da ((dL (dL (dP dI dI))) t73), .da (dI t82), .da ((dP (dL dI) (dL dI)) t84), .da ((dL (dP dI dI)) v_about95), .un, .un, .un, .un, .un]) (fun (s_ : (List Int)) => [(l_64, .ls (List.map dI s_))]) (src_R1 (j := 10) (ea_cons (ev_int (i := 20)) ea_nil) q100) q122 (.cons .rfl (.cons .rfl (.cons .rfl (.cons .rfl (.cons .rfl (.cons .rfl (.cons .rfl (.cons .rfl (.cons .rfl (.cons .rfl (.cons .un (.cons .un (.cons .un (.cons .un (.cons .un Wks.nil))))))))))))))) rfl (fun _ => True.intro) ?_ ?_
          · rintro lo2 c102 v_turn101 c_ hx2 h2 D2 he2 hn2 hct2 hbk2 hret2
            show Wp _ _ _ [.sl l_script v_script, .da (dI v_k3), .rf l_64, .da ((dL (dU dI)) (t67).1), .da ((dL (dU dI)) (t67).2), .da (dI t70), .da ((dL (dL (dP dI dI))) t73), .da (dI t82), .da ((dP (dL dI) (dL dI)) t84), .da ((dL (dP dI dI)) v_about95), .da (dI v_turn101), .un, .un, .un, .un] [(l_64, .ls (List.map dI c102))]
            obtain ⟨⟨t112, c113⟩, q114, h2⟩ := bindS h2
            refine wp_asg (i := 11) (ev_call1 0 (ea_cons (ev_rf (i := 2) rfl) (ea_cons (ev_var (i := 3) rfl) (ea_cons (ev_var (i := 4) rfl) (ea_cons (ev_var (i := 5) rfl) (ea_cons (ev_var (i := 8) rfl) ea_nil))))) rfl ⟨_, ⟨_, _, _, _, _, _, _, _, q114, rfl, rfl, rfl⟩, fun _ _ h => h⟩) ?_
            show Wp _ _ _ [.sl l_script v_script, .da (dI v_k3), .rf l_64, .da ((dL (dU dI)) (t67).1), .da ((dL (dU dI)) (t67).2), .da (dI t70), .da ((dL (dL (dP dI dI))) t73), .da (dI t82), .da ((dP (dL dI) (dL dI)) t84), .da ((dL (dP dI dI)) v_about95), .da (dI v_turn101), .da ((dP (dL dI) (dL dI)) t112), .un, .un, .un] [(l_64, .ls (List.map dI c113))]
            obtain ⟨t115, q116, h2⟩ := bindS h2
            obtain ⟨t117, q118, h2⟩ := bindS h2
            obtain ⟨t119, q120, h2⟩ := bindS h2
            refine wp_if (et_not (et_val (ev_call (ea_cons (ev_var (i := 3) rfl) (ea_cons (ev_var (i := 4) rfl) (ea_cons (ev_var (i := 5) rfl) (ea_cons (ev_var (i := 11) rfl) (ea_cons (ev_stp (f := (dL (dP dI dI))) (ev_var (i := 6) rfl) (eo_some (ev_op (ev_var (i := 10) rfl) (ev_int (i := 3)) (rr_mod q116))) eo_none (eo_some (ev_int (i := 3))) q118) (ea_cons (ev_var (i := 7) rfl) ea_nil)))))) ⟨_, ⟨_, _, _, _, _, _, _, q120, rfl, rfl, rfl⟩, fun _ _ h => h⟩))) (fun hc => ?_) (fun hc => ?_)
            · have h2 := condT hc h2
              cases h2
              have g2 := ctlK_rt (hret2 _ rfl) h1
              cases g2
              have g1 := ctlK_rt (hret1 _ rfl) h0
              have e0_ := Option.some.inj g1
              subst e0_
              exact wp_retS ev_bl (fin_at (fin_at hfin he1) he2) ⟨rfl, rfl⟩ (List.nil_sublist _)
            · have h2 := condF hc h2
              refine wp_next ?_
              cases h2
              exact wp_next fun σ H a => (hn2 _ rfl) σ H (at_weak (.cons .rfl (.cons .rfl (.cons .rfl (.cons .rfl (.cons .rfl (.cons .rfl (.cons .rfl (.cons .rfl (.cons .rfl (.cons .rfl (.cons .un (.cons .un (.cons .un (.cons .un (.cons .un Wks.nil))))))))))))))) a)
          · rintro c121 hk_
            have h1 := ctlK_go hk_ h1
            show Wp _ _ _ [.sl l_script v_script, .da (dI v_k3), .rf l_64, .da ((dL (dU dI)) (t67).1), .da ((dL (dU dI)) (t67).2), .da (dI t70), .da ((dL (dL (dP dI dI))) t73), .da (dI t82), .da ((dP (dL dI) (dL dI)) t84), .da ((dL (dP dI dI)) v_about95), .un, .un, .un, .un, .un] [(l_64, .ls (List.map dI c121))]
            refine wp_drop 0 ?_
            cases h1
            exact wp_next fun σ H a => (hn1 _ rfl) σ H (at_weak (.cons .rfl (.cons .un (.cons .un (.cons .un (.cons .un (.cons .un (.cons .un (.cons .un (.cons .un (.cons .un (.cons .un (.cons .un (.cons .un (.cons .un (.cons .un Wks.nil))))))))))))))) a)
    · rintro ⟨⟩ hk_
      have h0 := ctlK_go hk_ h0
      show Wp _ _ _ [.sl l_script v_script, .un, .un, .un, .un, .un, .un, .un, .un, .un, .un, .un, .un, .un, .un] []
      have e0_ := Option.some.inj h0
      subst e0_
      exact wp_retS ev_bl hfin ⟨rfl, rfl⟩ (List.nil_sublist _)
end K92
set_option maxHeartbeats 400000
namespace K92
open PySem PySem.Spec PyProof.Rows L2 Evl FC
/-! ### apart -/
theorem apart_eq {w : Nat} (hw : w ≤ 16000000) {a b : Col} (ha : Good w a) (hb : Good w b) : m_apart a b = some (ap a b) := by
  refine Ok.eq ?_
  unfold m_apart
  refine ok_len (by rw [List.length_zip, ha.1, hb.1, Nat.min_self]; exact hw) (Ok.of (mapO_of (g := fun p : Int × Int => (p.1 - p.2) * (p.1 - p.2)) fun p hp => ?_) (Ok.mk rfl))
  have h1 := ha.2 p.1 (List.of_mem_zip hp).1
  have h2 := hb.2 p.2 (List.of_mem_zip hp).2
  refine Ok.eq (ok_mul (mulOk_l ?_) (Ok.mk rfl))
  omega
/-! ### ones -/
theorem ones_eq {m k : Nat} (hk : k < 2 ^ m) : m_ones_in (k : Int) = some (bits m k : Int) := by
  unfold m_ones_in
  have key : ∀ (m k : Nat) (acc : Int), k < 2 ^ m → whiF (fun (s_ : Int × Int) => (fun (v_many1 : Int) (v_mask2 : Int) => some (decide ((0 : Int) < v_mask2))) s_.1 s_.2) (fun (s_ : Int × Int) => (fun (v_many1 : Int) (v_mask2 : Int) => ((modG v_mask2 (2 : Int)).bind fun t7 => ((fdivG v_mask2 (2 : Int)).bind fun t9 => some ((v_many1 + t7), t9)))) s_.1 s_.2) (m + 1) (acc, (k : Int)) = some (acc + bits m k, 0) := by
    intro m
    induction m with
    | zero =>
      intro k acc hk
      have e : k = 0 := by
        have : (2 : Nat) ^ 0 = 1 := rfl
        omega
      subst e
      rw [bits_zero]
      show (some (acc, (0 : Int))) = _
      rw [show ((0 : Nat) : Int) = 0 from rfl, Int.add_zero]
    | succ m ih =>
      intro k acc hk
      by_cases h0 : k = 0
      · subst h0
        rw [bits_zero]
        show (some (acc, (0 : Int))) = _
        rw [show ((0 : Nat) : Int) = 0 from rfl, Int.add_zero]
      · have hp : (0 : Int) < (k : Int) := by omega
        have hk2 : k / 2 < 2 ^ m := by
          rw [Nat.pow_succ] at hk
          omega
        rw [whiF_step (s' := (acc + (k : Int) % 2, (k : Int) / 2)) (by show some (decide _) = _; rw [decide_eq_true hp]) (by refine Ok.eq (Ok.of (mod_two (k : Int)) (Ok.of (fdiv_two (k : Int)) ?_)); exact Ok.mk rfl)]
        have e : (k : Int) / 2 = ((k / 2 : Nat) : Int) := by omega
        rw [e, ih (k / 2) _ hk2, bits_succ]
        congr 2
        omega
  rw [whiL_of (key m k 0 hk)]
  show some ((0 : Int) + (bits m k : Int)) = _
  rw [Int.zero_add]
/-! ### costs -/
abbrev Slf := Int × Int × Int × List (List Int)
theorem free_eq {n : Int} {m : Nat} {price : Int} {sqs least : List (List Int)} {k : Nat} (hm : m ≤ 20) : m_Costs_free (n, (m : Int), price, sqs) least (k : Int) = some (frees m k) := by
  refine Ok.eq ?_
  unfold m_Costs_free
  refine ok_rng (by omega) (by dsimp only; omega) (ok_len (by rw [rng_len]; dsimp only; omega) (Ok.of (filO_of (t := fun j => !(k.testBit j.toNat)) (g := fun j => j) (fun j hj => ?_) fun _ _ _ => rfl) (Ok.mk ?_)))
  · have hj2 := mem_rng.mp hj
    rw [shr_j hj2.1]
    show some (decide (Builtin.bitAnd ((k : Int) / 2 ^ j.toNat) 1 = 0)) = _
    rw [bit_and]
    cases k.testBit j.toNat <;> rfl
  · rw [List.map_id']
    rfl
theorem here_eq {n : Int} {m : Nat} {price : Int} {sqs least : List (List Int)} {i : Int} {k : Nat} {row : List Int} {rest : List (List Int)} {tl : List (List Int)} (hm : m ≤ 20) (hk : k < 2 ^ m) (hr : getI sqs i = some row) (hl : row.length = m) (hle : least = tabR m (V price m rest) :: tl) :
    m_Costs_from_here (n, (m : Int), price, sqs) least i (k : Int) = some (V price m (row :: rest) k) := by
  refine Ok.eq ?_
  unfold m_Costs_from_here
  have hfl := frees_len m k
  refine Ok.of (a := tabR m (V price m rest)) (by rw [hle]; exact getI_nat (by decide) rfl) (Ok.of (free_eq hm) (ok_len (by omega) (Ok.of (mapO_of (g := fun j => (row[j.toNat]?.getD 0) + V price m rest (k ||| 2 ^ j.toNat)) fun j hj => ?_) (Ok.of (tab_get _ hk) ?_))))
  · obtain ⟨⟨j0, j1⟩, _⟩ := mem_frees.mp hj
    refine Ok.eq (Ok.of hr (Ok.of (get_row j0 (by omega)) (Ok.of (shl_j j0 (by omega)) ?_)))
    rw [bit_or]
    exact Ok.of (tab_get _ (or_lt hk j1 j0)) (Ok.mk rfl)
  · refine ok_len (by rw [List.length_map]; show (frees m k).length + 1 ≤ _; omega) (Ok.of (min_leastOf (opts_ne row (V price m rest) price m k)) (Ok.mk rfl))
theorem init_eq {w : Nat} (hw : w ≤ 16000000) {one other : List Col} {price : Int} (h1 : ∀ c ∈ one, Good w c) (h2 : ∀ c ∈ other, Good w c) (hn : one.length ≤ 1000) (hm : other.length ≤ 20) :
    m_Costs_init one other price = some (((one.length : Int), (other.length : Int), price, sqsOf one other), tabs price other.length (sqsOf one other)) := by
  have hp := pow_le20 hm
  have hrl : (rng 0 ((2 ^ other.length : Nat) : Int)).length = 2 ^ other.length := by rw [rng_nat, List.length_map, List.length_range]
  have hsl : (sqsOf one other).length = one.length := List.length_map _
  refine Ok.eq ?_
  unfold m_Costs_init
  refine Ok.of rfl (Ok.of rfl (ok_len (by omega) (Ok.of (a := sqsOf one other) (mapO_of (g := fun c => other.map fun d => ap c d) fun c hc => ?_) ?_)))
  · exact Ok.eq (ok_len (by omega) (Ok.of (mapO_of (g := fun d => ap c d) fun d hd => Ok.eq (Ok.of (apart_eq hw (h1 c hc) (h2 d hd)) (Ok.mk rfl))) (Ok.mk rfl)))
  refine Ok.of (shl_one _ (by omega)) (ok_rng (by omega) ⟨by omega, by omega⟩ (ok_len (by rw [hrl]; omega) (Ok.of (a := tabR other.length (V price other.length [])) ?_ ?_)))
  · rw [mapO_of (g := fun k => V price other.length [] k.toNat)]
    · rw [rng_nat, List.map_map]
      rfl
    · intro k hk
      rw [rng_nat] at hk
      obtain ⟨i, hi, rfl⟩ := List.mem_map.mp hk
      have hi2 := List.mem_range.mp hi
      have hb := bits_le other.length i
      refine Ok.eq (Ok.of (ones_eq hi2) (ok_mul (mulOk_r ⟨by omega, by omega⟩) (Ok.mk ?_)))
      rw [Int.toNat_natCast]
      rfl
  refine ok_rng (by omega) ⟨by omega, by omega⟩ (Ok.bind (P := fun s => s = tabs price other.length (sqsOf one other)) ?_ fun s hs => Ok.mk (by rw [hs]))
  have hrn : (rng 0 (one.length : Int)).length = one.length := by rw [rng_len]; omega
  refine (ok_for (fun q (s : List (List Int)) => s = tabs price other.length ((sqsOf one other).drop (one.length - q.length))) ?_ ?_).mono fun s hs => ?_
  · show [_] = tabs price other.length ((sqsOf one other).drop (one.length - 0))
    rw [Nat.sub_zero, List.drop_of_length_le (by omega)]
    rfl
  · rintro q i r s e hs
    have hql : q.length < one.length := by
      have := congrArg List.length e
      rw [List.length_reverse, hrn, List.length_append, List.length_cons] at this
      omega
    have hi : i = ((one.length - 1 - q.length : Nat) : Int) := by
      have h3 : (rng 0 (one.length : Int)).reverse[q.length]? = some i := by
        rw [e, List.getElem?_append_right (Nat.le_refl _), Nat.sub_self]
        rfl
      rw [List.getElem?_reverse (by omega), hrn] at h3
      unfold rng at h3
      rw [List.getElem?_map, List.getElem?_range (by omega)] at h3
      have h4 : 0 + ((one.length - 1 - q.length : Nat) : Int) = i := Option.some.inj h3
      omega
    obtain ⟨row, g1, g2, g3⟩ := sqs_at (one := one) (other := other) (i := i) (by omega) (by omega)
    have hd : (sqsOf one other).drop (one.length - (q.length + 1)) = row :: (sqsOf one other).drop (one.length - q.length) := by
      have hlt : one.length - (q.length + 1) < (sqsOf one other).length := by omega
      have e2 : i.toNat = one.length - (q.length + 1) := by omega
      rw [e2, List.getElem?_eq_getElem hlt] at g2
      rw [List.drop_eq_getElem_cons hlt, Option.some.inj g2]
      congr 2
      omega
    obtain ⟨tl, ht⟩ := tabs_head price other.length ((sqsOf one other).drop (one.length - q.length))
    refine Ok.of (shl_one _ (by omega)) (ok_rng (by omega) ⟨by omega, by omega⟩ (ok_len (by rw [hrl]; omega) (Ok.of (a := tabR other.length (V price other.length (row :: (sqsOf one other).drop (one.length - q.length)))) ?_ ?_)))
    · rw [mapO_of (g := fun k => V price other.length (row :: (sqsOf one other).drop (one.length - q.length)) k.toNat)]
      · rw [rng_nat, List.map_map]
        rfl
      · intro k hk
        rw [rng_nat] at hk
        obtain ⟨i', hi', rfl⟩ := List.mem_map.mp hk
        have hi2 := List.mem_range.mp hi'
        refine Ok.eq (Ok.of (here_eq (rest := (sqsOf one other).drop (one.length - q.length)) (tl := tl) hm hi2 g1 g3 (by rw [show s = _ from hs]; exact ht)) (Ok.mk ?_))
        rw [Int.toNat_natCast]
    · have hsl2 : s.length ≤ 2000 := by
        rw [show s = _ from hs, tabs_len, List.length_drop]
        omega
      refine Ok.of (a := tabR other.length (V price other.length (row :: (sqsOf one other).drop (one.length - q.length))) :: s) ?_ (Ok.mk ?_)
      · unfold insI
        rw [if_pos ⟨by decide, by decide, by omega⟩]
        rfl
      · show _ = tabs price other.length ((sqsOf one other).drop (one.length - (q ++ [i]).length))
        rw [List.length_append, List.length_singleton, hd, show s = _ from hs]
        rfl
  · rw [hs, List.length_reverse, hrn, Nat.sub_self, List.drop_zero]
theorem part_eq {n : Int} {m : Nat} {price : Int} {sqs least : List (List Int)} {i : Int} {k : Nat} {row : List Int} {rest : List (List Int)} (hm : m ≤ 20) (hk : k < 2 ^ m) (hr : getI sqs i = some row) (hl : row.length = m)
    (hle : getI least i = some (tabR m (V price m (row :: rest)))) (hle2 : getI least (i + 1) = some (tabR m (V price m rest))) : m_Costs_partner (n, (m : Int), price, sqs) least i (k : Int) = some (partV price m row rest k) := by
  refine Ok.eq ?_
  unfold m_Costs_partner
  refine Ok.of (free_eq hm) (Ok.of (forC_find (t := fun j => decide ((row[j.toNat]?.getD 0) + V price m rest (k ||| 2 ^ j.toNat) = V price m (row :: rest) k)) (r := fun j => some j) fun j hj => ?_) ?_)
  · obtain ⟨⟨j0, j1⟩, _⟩ := mem_frees.mp hj
    refine Ok.eq (Ok.of hr (Ok.of (get_row j0 (by omega)) (Ok.of hle2 (Ok.of (shl_j j0 (by omega)) ?_))))
    rw [bit_or]
    refine Ok.of (tab_get _ (or_lt hk j1 j0)) (Ok.of hle (Ok.of (tab_get _ hk) ?_))
    cases (decide ((row[j.toNat]?.getD 0) + V price m rest (k ||| 2 ^ j.toNat) = V price m (row :: rest) k)) with
    | true => exact Ok.mk rfl
    | false => exact Ok.mk rfl
  · unfold partV
    cases (frees m k).find? _ with
    | none => exact Ok.mk rfl
    | some j => exact Ok.mk rfl
theorem rest_eq {n : Int} {m : Nat} {price : Int} {sqs least : List (List Int)} {i : Int} {k : Nat} (hk : k < 2 ^ m) (hm : m ≤ 20) (hi : 0 ≤ n - i ∧ n - i ≤ 1000) : m_Costs_rest (n, (m : Int), price, sqs) least i (k : Int) = some (price * (((n - i) + m) - bits m k)) := by
  have hb := bits_le m k
  refine Ok.eq ?_
  unfold m_Costs_rest
  exact Ok.of (ones_eq hk) (ok_mul (mulOk_r ⟨by dsimp only; omega, by dsimp only; omega⟩) (Ok.mk rfl))
theorem first_eq {m : Nat} {price : Int} {sqs : List (List Int)} (hm : m ≤ 20) (hn : sqs.length ≤ 1000) (hrow : ∀ r ∈ sqs, r.length = m) : m_Costs_first_pairs ((sqs.length : Int), (m : Int), price, sqs) (tabs price m sqs) = some (firstP price m sqs 0 0) := by
  refine Ok.eq ?_
  unfold m_Costs_first_pairs
  refine ok_rng (by omega) ⟨by dsimp only; omega, by dsimp only; omega⟩ ?_
  dsimp only
  refine Ok.bind (fp_loop (m := m) (price := price) (sqs := sqs) (fun i k acc row hlt hrow' hk ha => ?_) sqs.length 0 0 [] (by omega) (Nat.two_pow_pos m) (Nat.le_refl 0)) ?_
  · have hrl : row.length = m := hrow row (List.mem_of_getElem? hrow')
    have hdr : sqs.drop i = row :: sqs.drop (i + 1) := by
      rw [List.drop_eq_getElem_cons hlt]
      rw [List.getElem?_eq_getElem hlt] at hrow'
      rw [Option.some.inj hrow']
    have hgr : getI sqs (i : Int) = some row := getI_nat (by omega) (by rw [Int.toNat_natCast]; exact hrow')
    have g1 : getI (tabs price m sqs) (i : Int) = some (tabR m (V price m (row :: sqs.drop (i + 1)))) := by
      refine getI_nat (by omega) ?_
      rw [Int.toNat_natCast, tabs_at price m sqs i (by omega), hdr]
    have g2 : getI (tabs price m sqs) ((i : Int) + 1) = some (tabR m (V price m (sqs.drop (i + 1)))) := by
      refine getI_nat (by omega) ?_
      rw [show ((i : Int) + 1).toNat = i + 1 by omega, tabs_at price m sqs (i + 1) (by omega)]
    refine Ok.eq (Ok.of (rest_eq hk hm ⟨by omega, by omega⟩) (Ok.of g1 (Ok.of (tab_get _ hk) ?_)))
    unfold fpCtl
    by_cases hc : price * (((sqs.length : Int) - i + m) - bits m k) = V price m (row :: sqs.drop (i + 1)) k
    · rw [if_pos hc, decide_eq_true hc]
      exact Ok.mk rfl
    · rw [if_neg hc, decide_eq_false hc]
      refine ok_cond (fun z => (nomatch z)) fun _ => ?_
      dsimp only
      have hpe := part_eq (n := (sqs.length : Int)) (price := price) (sqs := sqs) (least := tabs price m sqs) (i := (i : Int)) (row := row) (rest := sqs.drop (i + 1)) hm hk hgr hrl g1 g2
      rw [hpe]
      cases hp : partV price m row (sqs.drop (i + 1)) k with
      | none => exact Ok.mk rfl
      | some j =>
        have hj := mem_frees.mp (List.mem_of_find?_eq_some hp)
        refine Ok.bind (P := fun r => r = (((k ||| 2 ^ j.toNat : Nat) : Int), acc ++ [((i : Int), j)])) ?_ fun r hr => Ok.mk (by rw [hr])
        refine ok_cond (fun _ => ?_) (fun z => (nomatch z))
        refine Ok.of (a := j) rfl ?_
        refine ok_len (by show acc.length ≤ _; omega) ?_
        refine Ok.of (a := j) rfl (Ok.of (shl_j hj.1.1 (by omega)) ?_)
        rw [bit_or]
        exact Ok.of rfl (Ok.mk rfl)
  · rintro c ⟨h1, h2⟩
    rw [List.drop_zero] at h1
    cases c with
    | nx s => exact Ok.mk h1
    | bk s => exact absurd rfl (h2 s)
    | rt r => exact Ok.mk h1
theorem change_eq {w : Nat} (hw : w ≤ 16000000) {one other : List Col} {price : Int} (h1 : ∀ c ∈ one, Good w c) (h2 : ∀ c ∈ other, Good w c) (hn : one.length ≤ 1000) (hm : other.length ≤ 20) :
    m_least_change one other price = some (V price other.length (sqsOf one other) 0, firstP price other.length (sqsOf one other) 0 0) := by
  refine Ok.eq ?_
  unfold m_least_change
  have hsl : (sqsOf one other).length = one.length := List.length_map _
  obtain ⟨tl, ht⟩ := tabs_head price other.length (sqsOf one other)
  refine Ok.of (init_eq hw h1 h2 hn hm) ?_
  dsimp only
  refine Ok.of (a := tabR other.length (V price other.length (sqsOf one other))) (by rw [ht]; exact getI_nat (by decide) rfl) (Ok.of (tab_get (k := 0) _ (Nat.two_pow_pos _)) ?_)
  have := first_eq (price := price) (sqs := sqsOf one other) hm (by omega) (fun r hr => by
    obtain ⟨c, _, rfl⟩ := List.mem_map.mp hr
    rw [List.length_map])
  rw [hsl] at this
  exact Ok.of this (Ok.mk rfl)
/-! ### pick -/
theorem mix_ok (cell k : Int) (hk : 0 ≤ k ∧ k < 2 ^ 61) : Ok (m_law_mix cell k) fun _ => True := by
  unfold m_law_mix
  have p61 : (2 : Int) ^ 61 < 2 ^ 64 := by decide
  refine ok_mod (by omega) fun _ _ => ok_mul (mulOk_l ⟨by omega, by omega⟩) (ok_mul (mulOk_r (by decide)) (ok_mul (mulOk_r (by decide)) (ok_mod (by omega) fun h1 h2 => ok_mul (mulOk_l ⟨by omega, by omega⟩) (ok_mod (by omega) fun _ _ => Ok.mk True.intro))))
theorem pick_ok {n : Nat} {left : List Int} {many : Int} (h : Lk n left) (hn : n ≤ 1000000000) (h0 : 0 < many) (h1 : many < 1000000000) : Ok (m_law_pick left many) fun r => 0 ≤ r.1 ∧ r.1 < many ∧ Lk (n + 1) r.2 := by
  obtain ⟨a, b, c, rfl, hc0, hcn⟩ := h
  have p61 : (1000000000 : Int) + 100 < 2 ^ 61 := by decide
  unfold m_law_pick
  refine Ok.of (a := c) rfl (Ok.of (a := [a, b, c + 1]) rfl (Ok.of (a := a) rfl (ok_cond (fun _ => ?_) fun _ => ?_)))
  · refine Ok.of (a := a) rfl (ok_mod h0 fun m1 m2 => Ok.of (a := a) rfl (ok_div h0 (by omega) (Ok.of (a := [a / many, b, c + 1]) rfl (Ok.mk ⟨m1, m2, _, _, _, rfl, by omega, by omega⟩))))
  · refine Ok.of (a := b) rfl (Ok.of (a := c + 1) rfl (Ok.bind (mix_ok b (c + 1) ⟨by omega, by omega⟩) fun t _ => Ok.of (a := c + 1) rfl (Ok.bind (mix_ok t (c + 1 + 64) ⟨by omega, by omega⟩) fun t2 _ => ok_div (by omega) (by omega) (ok_mod h0 fun m1 m2 => Ok.mk ⟨m1, m2, _, _, _, rfl, by omega, by omega⟩))))
/-! ### kind -/
theorem kind_ok {n : Nat} {left : List Int} (h : Lk n left) (hn : n ≤ 1000000) : Ok (m_law_kind left) fun r => Kind r.1 ∧ Lk (n + 2) r.2 := by
  unfold m_law_kind
  refine Ok.bind (pick_ok h (by omega) (by omega) (by omega)) ?_
  rintro ⟨t, c⟩ ⟨h1, h2, h3⟩
  refine ok_get h1 h2 fun x _ hx => Ok.bind (pick_ok h3 (by omega) (by omega) (by omega)) ?_
  rintro ⟨t2, c2⟩ ⟨g1, g2, g3⟩
  refine ok_get g1 g2 fun y _ hy => Ok.mk ⟨⟨?_, ?_⟩, g3⟩
  · show 1 ≤ x ∧ x ≤ 5
    simp only [List.mem_cons, List.not_mem_nil, or_false] at hx
    omega
  · show 1 ≤ y ∧ y ≤ 1000
    simp only [List.mem_cons, List.not_mem_nil, or_false] at hy
    omega
/-! ### colour -/
theorem colour_ok {n : Nat} {left : List Int} {kind : Int × Int} (hk : Kind kind) (h : Lk n left) (hn : n ≤ 1000000) : Ok (m_law_colour left kind) fun r => Good kind.1.toNat r.1 ∧ Lk (n + 10) r.2 := by
  obtain ⟨⟨k1, k2⟩, k3, k4⟩ := hk
  have hl : (rng 0 kind.1).length = kind.1.toNat := by
    rw [rng_len]
    omega
  unfold m_law_colour
  refine ok_rng (by omega) (by omega) (ok_len (by omega) (Ok.bind (ok_mapSN (fun k s => Lk (n + 2 * k) s) (fun x => 0 ≤ x ∧ x < 1000) (k := 0) h ?_) ?_))
  · intro j x s _ hj hs
    refine Ok.bind (pick_ok hs (by omega) (by omega) (by omega)) ?_
    rintro ⟨t, c⟩ ⟨h1, h2, h3⟩
    refine Ok.bind (pick_ok h3 (by omega) (by omega) (by omega)) ?_
    rintro ⟨t2, c2⟩ ⟨g1, g2, g3⟩
    have hb := b2_ix (decide (t2 = 0))
    refine ok_get hb.1 hb.2 fun y _ hy => Ok.mk ⟨?_, g3.mono (by omega)⟩
    show 0 ≤ y ∧ y < 1000
    have h1' : 0 ≤ t := h1
    have h2' : t < kind.2 := h2
    simp only [List.mem_cons, List.not_mem_nil, or_false] at hy
    omega
  · rintro ⟨o, c⟩ ⟨h1, h2, h3⟩
    exact Ok.mk ⟨⟨h1.trans hl, h2⟩, h3.mono (by omega)⟩
/-! ### left -/
theorem left_ok {ns : List Int} {k : Int} (hk : 0 ≤ k ∧ k ≤ 3) : Ok (m_law_left ns k) fun l => ∃ a b, l = [a, b, 0] := by
  unfold m_law_left
  refine Ok.bind (P := fun _ => True) (ok_cond (fun h => ?_) fun _ => Ok.mk True.intro) fun t _ => ?_
  · have h2 := of_decide_eq_true h
    exact ok_get hk.1 h2 fun x _ _ => Ok.mk True.intro
  · have hb := b2_ix (decide ((1000000000000000000 : Int) ≤ absI t))
    refine ok_mul (mulOk_r ⟨by omega, by omega⟩) (ok_mul (mulOk_l (by decide)) (Ok.mk ⟨_, _, rfl⟩))
/-! ### change -/
theorem lapart_eq : m_law_apart = m_apart := rfl
theorem min_is {α : Type} {lt : α → α → Bool} [T : Tot lt] {xs : List α} {F : α} (hF : F ∈ xs) (h : ∀ y ∈ xs, F = y ∨ lt F y = true) : minL lt xs = some F := by
  rw [minL_head]
  have hp := srt_perm (lt := lt) xs
  have hw := srt_pw (lt := lt) xs
  cases e : srt lt xs with
  | nil =>
    rw [e] at hp
    have := hp.mem_iff.mpr hF
    cases this
  | cons y ys =>
    rw [e] at hp hw
    have hy := hp.mem_iff.mp (List.mem_cons_self (a := y) (l := ys))
    have hF2 := hp.mem_iff.mpr hF
    show some y = some F
    rcases h y hy with z | z
    · rw [z]
    · rcases List.mem_cons.mp hF2 with w | w
      · rw [w]
      · have := (List.pairwise_cons.mp hw).1 F w
        rw [this] at z
        cases z
theorem nodup_len {n : Nat} {K : List Nat} (h : K.Nodup) (hr : ∀ x ∈ K, x < n) : K.length ≤ n := by
  have h1 := sm_part (n := n) (fun _ => 1) h hr
  rw [sm_const] at h1
  have h2 := sm_nn (k := n) (f := fun i => if i ∈ K then 0 else 1) fun i _ => by
    show (0 : Int) ≤ if i ∈ K then 0 else 1
    split <;> omega
  have h3 : ∀ l : List Nat, (l.map fun _ => (1 : Int)).sum = l.length := fun l => by
    induction l with
    | nil => rfl
    | cons x l ih =>
      rw [List.map_cons, List.sum_cons, ih, List.length_cons]
      omega
  rw [h3] at h1
  omega
section
variable {w n m : Nat} {one other : List Col} {price : Int} {L : Pairs}
theorem vlen (h : Val n m L) : L.length ≤ n := by
  have := nodup_len h.fst.1 h.fst.2
  rw [List.length_map] at this
  exact this
/-- two palettes and a price -/
structure Two (w : Nat) (one other : List Col) (price : Int) : Prop where
  g1 : ∀ c ∈ one, Good w c
  g2 : ∀ c ∈ other, Good w c
  l1 : 0 < one.length ∧ one.length ≤ 5
  l2 : 0 < other.length ∧ other.length ≤ 5
  wl : w ≤ 5
  p : 0 ≤ price ∧ price ≤ 100000000
abbrev Dm (one other : List Col) : Nat → Nat → Int := rD (sqsOf one other)
theorem Dm_eq {i j : Nat} (hi : i < one.length) (hj : j < other.length) : Dm one other i j = ap one[i] other[j] := by
  show ((sqsOf one other)[i]?.getD [])[j]?.getD 0 = _
  unfold sqsOf
  rw [List.getElem?_map, List.getElem?_eq_getElem hi]
  show (List.map _ other)[j]?.getD 0 = _
  rw [List.getElem?_map, List.getElem?_eq_getElem hj]
  rfl
theorem apart_at (h : Two w one other price) {i j : Int} (hi : 0 ≤ i ∧ i < one.length) (hj : 0 ≤ j ∧ j < other.length) : ∃ a b, getI one i = some a ∧ getI other j = some b ∧ m_apart a b = some (Dm one other i.toNat j.toNat) := by
  have h1 : i.toNat < one.length := by omega
  have h2 : j.toNat < other.length := by omega
  refine ⟨one[i.toNat], other[j.toNat], getI_nat hi.1 (List.getElem?_eq_getElem h1), getI_nat hj.1 (List.getElem?_eq_getElem h2), ?_⟩
  rw [Dm_eq h1 h2]
  have := h.wl
  exact apart_eq (by omega) (h.g1 _ (List.getElem_mem h1)) (h.g2 _ (List.getElem_mem h2))
theorem D_nn (i j : Nat) : 0 ≤ Dm one other i j := by
  by_cases hi : i < one.length
  · by_cases hj : j < other.length
    · rw [Dm_eq hi hj]
      exact ap_nn _ _
    · show 0 ≤ ((sqsOf one other)[i]?.getD [])[j]?.getD 0
      unfold sqsOf
      rw [List.getElem?_map, List.getElem?_eq_getElem hi]
      show 0 ≤ (List.map _ other)[j]?.getD 0
      rw [List.getElem?_eq_none (by rw [List.length_map]; omega)]
      exact Int.le_refl _
  · have e : (sqsOf one other)[i]? = none := List.getElem?_eq_none (by unfold sqsOf; rw [List.length_map]; omega)
    show 0 ≤ ((sqsOf one other)[i]?.getD [])[j]?.getD 0
    rw [e]
    exact Int.le_refl _
theorem turned_eq (h : Two w one other price) (hv : Val one.length other.length L) : mapO (fun (p_ : (Int × Int)) => (fun (v_i1 : Int) (v_j1 : Int) => ((getI one v_i1).bind fun t2 => ((getI other v_j1).bind fun t4 => ((m_apart t2 t4).bind fun t6 => some t6)))) p_.1 p_.2) L = some (L.map fun x => Dm one other x.1.toNat x.2.toNat) := by
  refine mapO_of fun x hx => ?_
  have h1 := hv.rg x hx
  obtain ⟨a, b, e1, e2, e3⟩ := apart_at h h1.1 h1.2
  exact Ok.eq (Ok.of e1 (Ok.of e2 (Ok.of e3 (Ok.mk rfl))))
theorem cost_eq (h : Two w one other price) (hv : Val one.length other.length L) : m_cost_of one other price L = some (cst (Dm one other) price one.length other.length L) := by
  have hl := vlen hv
  have := h.l1
  have := h.l2
  have := h.p
  refine Ok.eq ?_
  unfold m_cost_of
  exact ok_len (by omega) (Ok.of (turned_eq h hv) (Ok.of rfl (ok_mul (mulOk_l ⟨by omega, by omega⟩) (ok_mul (mulOk_l ⟨by omega, by omega⟩) (Ok.mk rfl)))))
theorem lcost_eq (h : Two w one other price) (hv : Val one.length other.length L) : m_law_cost one other price L = some (cst (Dm one other) price one.length other.length L) := by
  have hl := vlen hv
  have := h.l1
  have := h.l2
  have := h.p
  refine Ok.eq ?_
  unfold m_law_cost
  rw [lapart_eq]
  refine ok_len (by omega) (Ok.of (turned_eq h hv) (Ok.of rfl (Ok.of rfl (ok_mul (mulOk_l ⟨by omega, by omega⟩) (Ok.mk ?_)))))
  unfold cst
  congr 2
  omega
theorem least_eq (h : Two w one other price) : m_least_change one other price = some (V price other.length (sqsOf one other) 0, firstP price other.length (sqsOf one other) 0 0) := by
  have := h.wl
  have := h.l1
  have := h.l2
  exact change_eq (w := w) (by omega) h.g1 h.g2 (by omega) (by omega)
theorem topV (one other : List Col) (price : Int) : Val one.length other.length (firstP price other.length (sqsOf one other) 0 0) ∧ cst (Dm one other) price one.length other.length (firstP price other.length (sqsOf one other) 0 0) = V price other.length (sqsOf one other) 0 ∧ (∀ L, Val one.length other.length L → V price other.length (sqsOf one other) 0 ≤ cst (Dm one other) price one.length other.length L) ∧ ∀ L, Val one.length other.length L → cst (Dm one other) price one.length other.length L = V price other.length (sqsOf one other) 0 → firstP price other.length (sqsOf one other) 0 0 = L ∨ ltL (ltP ltI ltI) (firstP price other.length (sqsOf one other) 0 0) L = true := top (price := price) (m := other.length) (n := one.length) (sqs := sqsOf one other) (by unfold sqsOf; rw [List.length_map])
/-! #### the lists of all pairs -/
theorem val_nil : Val n m [] := ⟨List.Pairwise.nil, fun _ h => nomatch h⟩
theorem val_snoc {x : Int × Int} : Val (n + 1) m (L ++ [x]) ↔ (Val (n + 1) m L ∧ (∀ y ∈ L, y.1 < x.1 ∧ y.2 ≠ x.2)) ∧ (0 ≤ x.1 ∧ x.1 < (n + 1 : Nat)) ∧ 0 ≤ x.2 ∧ x.2 < m := by
  constructor
  · intro h
    have hp := List.pairwise_append.mp h.pw
    exact ⟨⟨⟨hp.1, fun y hy => h.rg y (List.mem_append_left _ hy)⟩, fun y hy => hp.2.2 y hy x (List.mem_singleton.mpr rfl)⟩, h.rg x (by simp)⟩
  · rintro ⟨⟨h1, h2⟩, h3⟩
    refine ⟨List.pairwise_append.mpr ⟨h1.pw, List.pairwise_singleton _ _, fun y hy z hz => ?_⟩, fun y hy => ?_⟩
    · rw [List.mem_singleton.mp hz]
      exact h2 y hy
    · rcases List.mem_append.mp hy with z | z
      · exact h1.rg y z
      · rw [List.mem_singleton.mp z]
        exact h3
theorem val_step : Val (n + 1) m L ↔ Val n m L ∨ ∃ (P : Pairs) (j : Int), L = P ++ [((n : Int), j)] ∧ Val n m P ∧ (0 ≤ j ∧ j < m) ∧ j ∉ P.map Prod.snd := by
  constructor
  · intro h
    rcases List.eq_nil_or_concat L with e | ⟨P, x, e⟩
    · rw [e]
      exact .inl val_nil
    · rw [List.concat_eq_append] at e
      subst e
      obtain ⟨⟨h1, h2⟩, h3, h4⟩ := val_snoc.mp h
      by_cases e : x.1 = n
      · refine .inr ⟨P, x.2, by rw [← e], ⟨h1.pw, fun y hy => ?_⟩, h4, fun hm => ?_⟩
        · have g1 := h1.rg y hy
          have g2 := h2 y hy
          exact ⟨⟨g1.1.1, by omega⟩, g1.2⟩
        · obtain ⟨y, hy, e2⟩ := List.mem_map.mp hm
          exact (h2 y hy).2 e2
      · refine .inl ⟨h.pw, fun y hy => ?_⟩
        have g1 := h.rg y hy
        rcases List.mem_append.mp hy with z | z
        · have g2 := h2 y z
          exact ⟨⟨g1.1.1, by omega⟩, g1.2⟩
        · rw [List.mem_singleton.mp z] at g1 ⊢
          exact ⟨⟨g1.1.1, by omega⟩, g1.2⟩
  · rintro (h | ⟨P, j, rfl, h, hj, hn⟩)
    · exact ⟨h.pw, fun y hy => by have := h.rg y hy; exact ⟨⟨this.1.1, by omega⟩, this.2⟩⟩
    · refine val_snoc.mpr ⟨⟨⟨h.pw, fun y hy => by have := h.rg y hy; exact ⟨⟨this.1.1, by omega⟩, this.2⟩⟩, fun y hy => ⟨(h.rg y hy).1.2, fun e => hn (List.mem_map.mpr ⟨y, hy, e⟩)⟩⟩, ⟨by show (0 : Int) ≤ n; omega, by show (n : Int) < (n + 1 : Nat); omega⟩, hj⟩
def ext (m : Nat) (i : Int) (P : Pairs) : List Pairs := ((rng 0 (m : Int)).filter fun j => !memB j (P.map Prod.snd)).map fun j => P ++ [(i, j)]
theorem ext_len (m : Nat) (i : Int) (P : Pairs) : (ext m i P).length ≤ m := by
  unfold ext
  rw [List.length_map]
  have := List.length_filter_le (fun j => !memB j (P.map Prod.snd)) (rng 0 (m : Int))
  rw [rng_len] at this
  omega
theorem mem_ext {m : Nat} {i : Int} {P : Pairs} : L ∈ ext m i P ↔ ∃ j : Int, (0 ≤ j ∧ j < m) ∧ j ∉ P.map Prod.snd ∧ L = P ++ [(i, j)] := by
  unfold ext
  rw [List.mem_map]
  constructor
  · rintro ⟨j, h1, rfl⟩
    obtain ⟨h2, h3⟩ := List.mem_filter.mp h1
    refine ⟨j, mem_rng.mp h2, fun z => ?_, rfl⟩
    have : memB j (P.map Prod.snd) = true := by
      unfold memB
      exact List.any_eq_true.mpr ⟨j, z, decide_eq_true rfl⟩
    rw [this] at h3
    cases h3
  · rintro ⟨j, h1, h2, rfl⟩
    refine ⟨j, List.mem_filter.mpr ⟨mem_rng.mpr h1, ?_⟩, rfl⟩
    have : memB j (P.map Prod.snd) = false := by
      unfold memB
      rw [List.any_eq_false]
      intro y hy e
      exact h2 (of_decide_eq_true e ▸ hy)
    rw [this]
    rfl
theorem pow_le5 {a i : Nat} (ha : a ≤ 5) (hi : i ≤ 5) : (a + 1) ^ i ≤ 7776 := by
  have h1 : (a + 1) ^ i ≤ 6 ^ i := Nat.pow_le_pow_left (by omega) i
  have h2 : 6 ^ i ≤ 6 ^ 5 := Nat.pow_le_pow_right (by decide) hi
  omega
theorem flat_len {α β : Type} (f : α → List β) (b : Nat) : ∀ l : List α, (∀ x ∈ l, (f x).length ≤ b) → (l.flatMap f).length ≤ l.length * b
  | [], _ => by simp
  | x :: l, h => by
    rw [List.flatMap_cons, List.length_append, List.length_cons, Nat.add_mul]
    have := h x List.mem_cons_self
    have := flat_len f b l fun y hy => h y (List.mem_cons_of_mem _ hy)
    omega
theorem all_ok (hn : n ≤ 5) (hm : m ≤ 5) : Ok (m_law_all_pairs n m) fun P => (∀ L, L ∈ P ↔ Val n m L) ∧ P.length ≤ 7776 := by
  unfold m_law_all_pairs
  have lN : (rng 0 (n : Int)).length = n := by rw [rng_len]; omega
  have lM : (rng 0 (m : Int)).length = m := by rw [rng_len]; omega
  refine ok_rng (by omega) (by omega) (Ok.bind (ok_for (fun q (c : List Pairs) => (∀ L, L ∈ c ↔ Val q.length m L) ∧ c.length ≤ (m + 1) ^ q.length) ⟨fun L => ?_, Nat.le_refl _⟩ ?_) ?_)
  · rw [List.mem_singleton]
    constructor
    · rintro rfl
      exact val_nil
    · intro h
      have := vlen h
      exact List.length_eq_zero_iff.mp (Nat.le_zero.mp this)
  · rintro q i r c e ⟨i1, i2⟩
    have hq : q.length < n := by
      have h1 := congrArg List.length e
      rw [lN, List.length_append, List.length_cons] at h1
      omega
    have hi : i = (q.length : Int) := by
      have h3 : (rng 0 (n : Int))[q.length]? = some i := by
        rw [e, List.getElem?_append_right (Nat.le_refl _), Nat.sub_self]
        rfl
      unfold rng at h3
      rw [List.getElem?_map, List.getElem?_range (by omega)] at h3
      have h4 : 0 + ((q.length : Nat) : Int) = i := Option.some.inj h3
      omega
    subst hi
    have hb := pow_le5 hm (i := q.length) (by omega)
    have hb2 : (m + 1) ^ (q.length + 1) = (m + 1) ^ q.length * m + (m + 1) ^ q.length := by rw [Nat.pow_succ, Nat.mul_add, Nat.mul_one]
    have hb3 := pow_le5 hm (i := q.length + 1) (by omega)
    refine Ok.bind (ok_for (fun z (s : List Pairs) => s = c ++ z.flatMap (ext m q.length)) (by simp) ?_) ?_
    · rintro z P z2 s e2 hs
      have hPv := (i1 P).mp (by rw [e2]; simp)
      have hPl := vlen hPv
      have hPv2 : P.length ≤ 5 := by omega
      have hz : z.length < c.length := by
        have h1 := congrArg List.length e2
        rw [List.length_append, List.length_cons] at h1
        omega
      have hsl : s.length ≤ 80000 := by
        have h1 := flat_len (ext m q.length) m z fun x _ => ext_len m _ x
        have h2 : z.length * m ≤ 7776 * 5 := Nat.mul_le_mul (by omega) hm
        rw [hs, List.length_append]
        omega
      refine ok_len (by omega) (Ok.of (a := P.map Prod.snd) rfl (ok_rng (by omega) (by omega) (ok_len (by omega) (Ok.of (a := ext m q.length P) (filO_of (t := fun j => !memB j (P.map Prod.snd)) (g := fun j => P ++ [((q.length : Int), j)]) (fun _ _ => rfl) fun j _ _ => Ok.eq (ok_len (by show P.length + 1 ≤ _; omega) (Ok.mk rfl))) (ok_len ?_ (Ok.mk ?_))))))
      · have := ext_len m q.length P
        omega
      · rw [hs, List.flatMap_append, List.append_assoc]
        show _ = _ ++ (_ ++ (ext m q.length P ++ []))
        rw [List.append_nil]
    · rintro s rfl
      refine Ok.mk ⟨fun L => ?_, ?_⟩
      · rw [List.mem_append, i1, List.length_append, List.length_singleton, val_step, List.mem_flatMap]
        constructor
        · rintro (h | ⟨P, h1, h2⟩)
          · exact .inl h
          · obtain ⟨j, g1, g2, g3⟩ := mem_ext.mp h2
            exact .inr ⟨P, j, g3, (i1 P).mp h1, g1, g2⟩
        · rintro (h | ⟨P, j, h1, h2, h3, h4⟩)
          · exact .inl h
          · exact .inr ⟨P, (i1 P).mpr h2, mem_ext.mpr ⟨j, h3, h4, h1⟩⟩
      · rw [List.length_append, List.length_append, List.length_singleton, hb2]
        have h1 := flat_len (ext m q.length) m c fun x _ => ext_len m _ x
        have h2 : c.length * m ≤ (m + 1) ^ q.length * m := Nat.mul_le_mul_right m i2
        omega
  · rintro c ⟨i1, i2⟩
    rw [lN] at i1 i2
    exact Ok.mk ⟨i1, Nat.le_trans i2 (pow_le5 hm hn)⟩
end
/-! ### change2 -/
/-! #### numbers within bounds -/
abbrev Bnd := List (Int × Int × Int)
def gv (F : List Int) (a : Int) : Int := F[a.toNat]?.getD 0
theorem gv_get {F : List Int} {a : Int} (h0 : 0 ≤ a) (h1 : a < F.length) : getI F a = some (gv F a) := by
  refine getI_nat h0 ?_
  unfold gv
  rw [List.getElem?_eq_getElem (by omega)]
  rfl
theorem gv_set {F : List Int} {a b x : Int} (ha : 0 ≤ a ∧ a < F.length) (hb : 0 ≤ b) : gv (F.set a.toNat x) b = if b = a then x else gv F b := by
  unfold gv
  rw [List.getElem?_set]
  by_cases e : b = a
  · rw [if_pos (by rw [e]), if_pos (by omega), if_pos e]
    rfl
  · rw [if_neg (by omega), if_neg e]
theorem set_sum : ∀ {F : List Int} {a : Nat} (x : Int), a < F.length → (F.set a x).sum = F.sum - (F[a]?.getD 0) + x
  | [], a, x, h => by simp at h
  | y :: F, 0, x, _ => by
    show (x :: F).sum = (y :: F).sum - y + x
    rw [List.sum_cons, List.sum_cons]
    omega
  | y :: F, a + 1, x, h => by
    show (y :: F.set a x).sum = (y :: F).sum - (F[a]?.getD 0) + x
    rw [List.sum_cons, List.sum_cons, set_sum x (by simpa using h)]
    omega
theorem sum_gv (F : List Int) : F.sum = sm F.length fun i => F[i]?.getD 0 := by
  unfold sm
  congr 1
  refine List.ext_getElem? fun i => ?_
  rw [List.getElem?_map]
  by_cases h : i < F.length
  · rw [List.getElem?_range h, List.getElem?_eq_getElem h]
    show some F[i] = some (F[i]?.getD 0)
    rw [List.getElem?_eq_getElem h]
    rfl
  · rw [List.getElem?_eq_none (by omega), List.getElem?_eq_none (by rw [List.length_range]; omega)]
    rfl
theorem within_ok {N : Nat} (hN : N ≤ 1000) {rows : Bnd} (hr : ∀ r ∈ rows, (0 ≤ r.1 ∧ r.1 < N) ∧ 0 ≤ r.2.1 ∧ r.2.1 < N) {π : Int → Int} {C : Int} (hC : ∀ a : Int, 0 ≤ a → a < N → π a ≤ C) (hp : ∀ r ∈ rows, π r.2.1 ≤ π r.1 + r.2.2) :
    Ok (m_numbers_within rows N) fun F => F.length = N ∧ ∀ r ∈ rows, gv F r.2.1 ≤ gv F r.1 + r.2.2 := by
  unfold m_numbers_within
  refine Ok.of (a := List.replicate N 0) (by unfold repI; rw [if_pos ⟨by omega, by omega, by rw [List.length_singleton, Int.toNat_natCast]; omega⟩, Int.toNat_natCast, List.flatten_replicate_singleton]) ?_
  have lowS : ∀ F : List Int, F.length = N → (∀ a, 0 ≤ a → a < (N : Int) → π a - C ≤ gv F a) → sm N (fun i => π i - C) ≤ F.sum := fun F hl h => by
    rw [sum_gv, hl]
    exact sm_le fun i hi => by
      have := h i (by omega) (by omega)
      unfold gv at this
      rw [Int.toNat_natCast] at this
      exact this
  have one : ∀ F : List Int, F.length = N → (∀ a, 0 ≤ a → a < (N : Int) → π a - C ≤ gv F a) → Ok (forF (fun (s_ : Bool × (List Int)) => (fun (p_ : (Int × Int × Int)) => (fun (v_a44 : Int) (v_b45 : Int) (v_most46 : Int) => (fun (v_changed47 : Bool) (c48 : (List Int)) => ((getI c48 v_b45).bind fun t64 => ((getI c48 v_a44).bind fun t66 => ((cond (decide ((t66 + v_most46) < t64)) (((getI c48 v_a44).bind fun t74 => ((setI c48 v_b45 (t74 + v_most46)).bind fun c76 => some (true, c76)))) (some (v_changed47, c48))).bind fun (v_changed72, c73) => some (v_changed72, c73))))) s_.1 s_.2) p_.1 p_.2.1 p_.2.2)) (false, F) rows)
      fun s => s.2.length = N ∧ (∀ a, 0 ≤ a → a < (N : Int) → π a - C ≤ gv s.2 a) ∧ (s.1 = true → s.2.sum < F.sum) ∧ (s.1 = false → s.2 = F ∧ ∀ r ∈ rows, gv F r.2.1 ≤ gv F r.1 + r.2.2) := fun F hl hlow => by
    refine ok_for (fun (q : Bnd) (s : Bool × List Int) => s.2.length = N ∧ (∀ a, 0 ≤ a → a < (N : Int) → π a - C ≤ gv s.2 a) ∧ (s.1 = true → s.2.sum < F.sum) ∧ (s.1 = false → s.2 = F ∧ ∀ r ∈ q, gv F r.2.1 ≤ gv F r.1 + r.2.2)) ⟨hl, hlow, (fun z => by cases z), fun _ => ⟨rfl, fun _ z => by cases z⟩⟩ ?_
    rintro q ⟨a, b, w⟩ z ⟨ch, G⟩ e ⟨i1, i2, i3, i4⟩
    dsimp only at i1 i2 i3 i4 ⊢
    have hm : (a, b, w) ∈ rows := by rw [e]; simp
    obtain ⟨ha, hb⟩ := hr _ hm
    have hpi := hp _ hm
    dsimp only at ha hb hpi
    refine Ok.of (gv_get hb.1 (by omega)) (Ok.of (gv_get ha.1 (by omega)) (Ok.bind (P := fun s : Bool × List Int => s.2.length = N ∧ (∀ a, 0 ≤ a → a < (N : Int) → π a - C ≤ gv s.2 a) ∧ (s.1 = true → s.2.sum < F.sum) ∧ (s.1 = false → s.2 = F ∧ ∀ r ∈ q ++ [(a, b, w)], gv F r.2.1 ≤ gv F r.1 + r.2.2)) (ok_cond (fun h1 => ?_) fun h1 => Ok.mk ⟨i1, i2, i3, fun hc => ?_⟩) ?_))
    · have h2 := of_decide_eq_true h1
      have hset : setI G b (gv G a + w) = some (G.set b.toNat (gv G a + w)) := by
        unfold setI
        have hg := gv_get (F := G) hb.1 (by omega)
        obtain ⟨kx, k1, k2⟩ := getI_ix hg
        rw [k1]
        have h3 : kx = b.toNat := by
          have := getI_nat (xs := List.range G.length) (i := b) (x := b.toNat) hb.1 (by rw [List.getElem?_range (by omega)])
          obtain ⟨ky, k3, k4⟩ := getI_ix this
          rw [List.length_range, k1] at k3
          have k5 := (List.getElem?_eq_some_iff.mp k4).2
          rw [List.getElem_range] at k5
          rw [← k5]
          exact Option.some.inj k3
        rw [h3]
        rfl
      refine Ok.of (gv_get ha.1 (by omega)) (Ok.of hset (Ok.mk ⟨by rw [List.length_set]; exact i1, fun c c0 c1 => ?_, fun _ => ?_, fun z => nomatch z⟩))
      · show π c - C ≤ gv (G.set b.toNat (gv G a + w)) c
        rw [gv_set ⟨hb.1, by omega⟩ c0]
        split
        · rename_i e2
          have := i2 a ha.1 ha.2
          rw [e2]
          omega
        · exact i2 c c0 c1
      · show (G.set b.toNat (gv G a + w)).sum < F.sum
        rw [set_sum _ (by omega)]
        have h3 : G.sum ≤ F.sum := by
          cases ch with
          | true => have := i3 rfl; omega
          | false => rw [(i4 rfl).1]; exact Int.le_refl _
        have h4 : G[b.toNat]?.getD 0 = gv G b := rfl
        rw [h4]
        omega
    · have h2 := of_decide_eq_false h1
      obtain ⟨j1, j2⟩ := i4 hc
      refine ⟨j1, fun r hr2 => ?_⟩
      rcases List.mem_append.mp hr2 with y | y
      · exact j2 r y
      · rw [List.mem_singleton.mp y]
        rw [j1] at h2
        show gv F b ≤ gv F a + w
        omega
    · rintro ⟨ch2, G2⟩ hg
      exact Ok.mk hg
  have key : ∀ (k : Nat) (F : List Int), F.length = N → (∀ a, 0 ≤ a → a < (N : Int) → π a - C ≤ gv F a) → F.sum - sm N (fun i => π i - C) ≤ k → ∃ (s : Bool × List Int), whiF (fun (s_ : Bool × (List Int)) => (fun (v_changed4 : Bool) (c5 : (List Int)) => some v_changed4) s_.1 s_.2) (fun (s_ : Bool × (List Int)) => (fun (v_changed4 : Bool) (c5 : (List Int)) => ((forF (fun (s_ : Bool × (List Int)) => (fun (p_ : (Int × Int × Int)) => (fun (v_a44 : Int) (v_b45 : Int) (v_most46 : Int) => (fun (v_changed47 : Bool) (c48 : (List Int)) => ((getI c48 v_b45).bind fun t64 => ((getI c48 v_a44).bind fun t66 => ((cond (decide ((t66 + v_most46) < t64)) (((getI c48 v_a44).bind fun t74 => ((setI c48 v_b45 (t74 + v_most46)).bind fun c76 => some (true, c76)))) (some (v_changed47, c48))).bind fun (v_changed72, c73) => some (v_changed72, c73))))) s_.1 s_.2) p_.1 p_.2.1 p_.2.2)) (false, c5) rows).bind fun (v_changed79, c80) => some (v_changed79, c80))) s_.1 s_.2) (k + 2) (true, F) = some s ∧ s.2.length = N ∧ ∀ r ∈ rows, gv s.2 r.2.1 ≤ gv s.2 r.1 + r.2.2 := by
    intro k
    induction k with
    | zero =>
      intro F hl hlow hk
      obtain ⟨⟨ch, G⟩, h1, g1, g2, g3, g4⟩ := one F hl hlow
      have g5 := lowS G g1 g2
      cases ch with
      | true =>
        have := g3 rfl
        dsimp only at g5 this
        omega
      | false =>
        obtain ⟨e1, e2⟩ := g4 rfl
        dsimp only at e1
        subst e1
        refine ⟨(false, G), ?_, g1, e2⟩
        rw [whiF_step rfl (s' := (false, G)) (by dsimp only; rw [h1]; rfl)]
        exact whiF_stop rfl
    | succ k ih =>
      intro F hl hlow hk
      obtain ⟨⟨ch, G⟩, h1, g1, g2, g3, g4⟩ := one F hl hlow
      cases ch with
      | true =>
        have g6 := g3 rfl
        dsimp only at g1 g2 g6
        obtain ⟨s, s1, s2⟩ := ih G g1 g2 (by omega)
        refine ⟨s, ?_, s2⟩
        rw [whiF_step rfl (s' := (true, G)) (by dsimp only; rw [h1]; rfl)]
        exact s1
      | false =>
        obtain ⟨e1, e2⟩ := g4 rfl
        dsimp only at e1
        subst e1
        refine ⟨(false, G), ?_, g1, e2⟩
        rw [whiF_step rfl (s' := (false, G)) (by dsimp only; rw [h1]; rfl)]
        exact whiF_stop rfl
  have hlow0 : ∀ a, 0 ≤ a → a < (N : Int) → π a - C ≤ gv (List.replicate N 0) a := fun a a0 a1 => by
    have := hC a a0 a1
    unfold gv
    rw [List.getElem?_replicate]
    split
    · show π a - C ≤ 0
      omega
    · show π a - C ≤ 0
      omega
  obtain ⟨⟨ch, F⟩, h1, h2, h3⟩ := key ((List.replicate N (0 : Int)).sum - sm N (fun i => π i - C)).toNat (List.replicate N 0) List.length_replicate hlow0 (by omega)
  exact Ok.of (whiL_of h1) (Ok.mk ⟨h2, h3⟩)
/-! ### change3 -/
/-! #### bounds, prices -/
theorem dget_some : ∀ {L : Pairs} {i j : Int}, dget L i = some j → (i, j) ∈ L
  | [], _, _, h => by cases h
  | x :: L, i, j, h => by
    unfold dget at h
    rw [List.find?_cons] at h
    by_cases e : x.1 = i
    · rw [show decide (x.1 = i) = true from decide_eq_true e] at h
      have h2 : x.2 = j := Option.some.inj h
      have : x = (i, j) := Prod.ext e h2
      rw [this]
      exact List.mem_cons_self
    · rw [show decide (x.1 = i) = false from decide_eq_false e] at h
      exact List.mem_cons_of_mem _ (dget_some (show dget L i = some j from h))
theorem dget_none : ∀ {L : Pairs} {i : Int}, dget L i = none → ∀ x ∈ L, x.1 ≠ i
  | [], _, _ => fun _ h => nomatch h
  | x :: L, i, h => by
    unfold dget at h
    rw [List.find?_cons] at h
    by_cases e : x.1 = i
    · rw [show decide (x.1 = i) = true from decide_eq_true e] at h
      cases h
    · rw [show decide (x.1 = i) = false from decide_eq_false e] at h
      intro y hy
      rcases List.mem_cons.mp hy with z | z
      · rw [z]
        exact e
      · exact dget_none (show dget L i = none from h) y z
theorem zsum {α : Type} : ∀ l : List α, (l.map fun _ => (0 : Int)).sum = 0
  | [] => rfl
  | _ :: l => by
    rw [List.map_cons, List.sum_cons, zsum l]
    rfl
theorem pair_fun {L : Pairs} (h : L.Pairwise fun a b => a.1 < b.1 ∧ a.2 ≠ b.2) {x y : Int × Int} : ∀ {j : Int}, (x.1, j) ∈ L → y ∈ L → y = x → j = y.2 := by
  rintro j hj hy rfl
  induction L with
  | nil => cases hj
  | cons z L ih =>
    have hp := List.pairwise_cons.mp h
    rcases List.mem_cons.mp hj with e1 | e1
    · rcases List.mem_cons.mp hy with e2 | e2
      · rw [e2, ← e1]
      · have := (hp.1 y e2).1
        rw [← e1] at this
        dsimp only at this
        omega
    · rcases List.mem_cons.mp hy with e2 | e2
      · have := (hp.1 _ e1).1
        rw [← e2] at this
        dsimp only at this
        omega
      · exact ih hp.2 e2 e1
section
variable {w : Nat} {one other : List Col} {price : Int} {L : Pairs}
def rowE (one other : List Col) (price : Int) (L : Pairs) (i : Int) : Int × Int × Int := match dget L i with
  | some j => (1 + i, 1 + (one.length : Int) + j, 0 - Dm one other i.toNat j.toNat)
  | none => (1 + i, 0, 0 - price)
def rowI (one other : List Col) (price : Int) (L : Pairs) (i : Int) : Bnd := ((0, 1 + i, price) :: (rng 0 (other.length : Int)).map fun j => (1 + (one.length : Int) + j, 1 + i, Dm one other i.toNat j.toNat)) ++ [rowE one other price L i]
def rowJ (one : List Col) (price : Int) (L : Pairs) (j : Int) : Bnd := [(1 + (one.length : Int) + j, 0, price)] ++ if memB j (L.map Prod.snd) = true then [] else [(0, 1 + (one.length : Int) + j, 0 - price)]
def bnds (one other : List Col) (price : Int) (L : Pairs) : Bnd := (rng 0 (one.length : Int)).flatMap (rowI one other price L) ++ (rng 0 (other.length : Int)).flatMap (rowJ one price L)
theorem rowI_len (i : Int) : (rowI one other price L i).length = other.length + 2 := by
  unfold rowI
  rw [List.length_append, List.length_cons, List.length_map, rng_len]
  show ((other.length : Int) - 0).toNat + 1 + 1 = _
  omega
theorem rowJ_len (j : Int) : (rowJ one price L j).length ≤ 2 := by
  unfold rowJ
  split
  · exact Nat.le_succ 1
  · exact Nat.le_refl 2
theorem bounds_eq (h : Two w one other price) (hv : Val one.length other.length L) : m_bounds_between one other price L = some (bnds one other price L) := by
  have hl := vlen hv
  have l1 := h.l1
  have l2 := h.l2
  have lN : (rng 0 (one.length : Int)).length = one.length := by rw [rng_len]; omega
  have lM : (rng 0 (other.length : Int)).length = other.length := by rw [rng_len]; omega
  refine Ok.eq ?_
  unfold m_bounds_between
  have hk : (L.map Prod.fst).Nodup := List.pairwise_map.mpr (hv.pw.imp fun h e => by have := h.1; omega)
  refine Ok.of rfl (Ok.of (a := L) (by unfold dictP; rw [if_pos hk]) (ok_len (by omega) (Ok.of (a := L.map Prod.snd) rfl (ok_rng (by omega) (by omega) (Ok.bind (ok_for (fun q (c : Bnd) => c.length ≤ q.length * 7 ∧ c = q.flatMap (rowI one other price L)) ⟨Nat.zero_le _, rfl⟩ ?_) ?_)))))
  · rintro q i r c e ⟨i1, i2⟩
    have hi := mem_rng.mp (show i ∈ rng 0 (one.length : Int) by rw [e]; simp)
    have hq : q.length < 5 := by
      have h1 := congrArg List.length e
      rw [lN, List.length_append, List.length_cons] at h1
      omega
    refine ok_len (by omega) (ok_rng (by omega) (by omega) (Ok.bind (ok_for (fun z (s : Bnd) => s.length = c.length + 1 + z.length ∧ s = (c ++ [((0 : Int), 1 + i, price)]) ++ z.map fun j => (1 + (one.length : Int) + j, 1 + i, Dm one other i.toNat j.toNat)) ⟨by rw [List.length_append]; rfl, by rw [List.map_nil, List.append_nil]⟩ ?_) ?_))
    · rintro z j z2 s e2 ⟨j1, j2⟩
      have hj := mem_rng.mp (show j ∈ rng 0 (other.length : Int) by rw [e2]; simp)
      have hz : z.length < 5 := by
        have h1 := congrArg List.length e2
        rw [lM, List.length_append, List.length_cons] at h1
        omega
      obtain ⟨a, b, g1, g2, g3⟩ := apart_at h (i := i) (j := j) ⟨by omega, by omega⟩ ⟨by omega, by omega⟩
      refine Ok.of g1 (Ok.of g2 (Ok.of g3 (ok_len (by omega) (Ok.mk ⟨by rw [List.length_append, List.length_append, j1]; rfl, ?_⟩))))
      rw [j2, List.map_append, List.append_assoc]
      rfl
    · rintro s ⟨j1, j2⟩
      rw [lM] at j1
      refine Ok.bind (P := fun s' : Bnd => s' = s ++ [rowE one other price L i]) (ok_cond (fun hc => ?_) fun hc => ?_) ?_
      · cases hd : dget L i with
        | none => rw [hd] at hc; cases hc
        | some j =>
          have hj := hv.rg _ (dget_some hd)
          obtain ⟨a, b, g1, g2, g3⟩ := apart_at h (i := i) (j := j) ⟨by omega, by omega⟩ hj.2
          refine Ok.of rfl (Ok.of g1 (Ok.of rfl (Ok.of g2 (Ok.of g3 (ok_len (by omega) (Ok.mk ?_))))))
          unfold rowE
          rw [hd]
      · cases hd : dget L i with
        | some j => rw [hd] at hc; cases hc
        | none =>
          refine ok_len (by omega) (Ok.mk ?_)
          unfold rowE
          rw [hd]
      · rintro s' rfl
        refine Ok.mk ⟨?_, ?_⟩
        · rw [List.length_append, j1, List.length_append, List.length_singleton, List.length_singleton]
          omega
        · rw [j2, i2, List.flatMap_append]
          show _ = _ ++ (rowI one other price L i ++ [])
          rw [List.append_nil]
          unfold rowI
          rw [List.append_assoc, List.append_assoc]
          rfl
  · rintro c ⟨i1, i2⟩
    rw [lN] at i1
    refine ok_rng (by omega) (by omega) (Ok.bind (ok_for (fun q (s : Bnd) => s.length ≤ c.length + 2 * q.length ∧ s = c ++ q.flatMap (rowJ one price L)) ⟨Nat.le_refl _, (List.append_nil _).symm⟩ ?_) ?_)
    · rintro q j r s e ⟨j1, j2⟩
      have hq : q.length < 5 := by
        have h1 := congrArg List.length e
        rw [lM, List.length_append, List.length_cons] at h1
        omega
      refine ok_len (by omega) (Ok.bind (P := fun s' : Bnd => s' = s ++ rowJ one price L j) (ok_cond (fun hc => ok_len (by rw [List.length_append]; show s.length + 1 ≤ _; omega) (Ok.mk ?_)) fun hc => Ok.mk ?_) ?_)
      · unfold rowJ
        rw [if_neg (by rw [Bool.not_eq_true'] at hc; rw [hc]; decide), List.append_assoc]
      · unfold rowJ
        rw [if_pos (by simpa using hc), List.append_nil]
      · rintro s' rfl
        have := rowJ_len (one := one) (price := price) (L := L) j
        refine Ok.mk ⟨?_, ?_⟩
        · rw [List.length_append, List.length_append, List.length_singleton]
          omega
        · rw [j2, List.flatMap_append, List.append_assoc]
          show _ = _ ++ (_ ++ (rowJ one price L j ++ []))
          rw [List.append_nil]
    · rintro s ⟨_, j2⟩
      refine Ok.mk ?_
      rw [j2, i2]
      rfl
theorem mem_bnds {r : Int × Int × Int} : r ∈ bnds one other price L ↔ (∃ i, (0 ≤ i ∧ i < (one.length : Int)) ∧ (r = (0, 1 + i, price) ∨ (∃ j, (0 ≤ j ∧ j < (other.length : Int)) ∧ r = (1 + (one.length : Int) + j, 1 + i, Dm one other i.toNat j.toNat)) ∨ r = rowE one other price L i)) ∨ ∃ j, (0 ≤ j ∧ j < (other.length : Int)) ∧ (r = (1 + (one.length : Int) + j, 0, price) ∨ j ∉ L.map Prod.snd ∧ r = (0, 1 + (one.length : Int) + j, 0 - price)) := by
  have hmb : ∀ j, memB j (L.map Prod.snd) = true ↔ j ∈ L.map Prod.snd := fun j => by
    unfold memB
    rw [List.any_eq_true]
    exact ⟨fun ⟨y, h1, h2⟩ => of_decide_eq_true h2 ▸ h1, fun h => ⟨j, h, decide_eq_true rfl⟩⟩
  unfold bnds
  rw [List.mem_append, List.mem_flatMap, List.mem_flatMap]
  constructor
  · rintro (⟨i, h1, h2⟩ | ⟨j, h1, h2⟩)
    · refine .inl ⟨i, mem_rng.mp h1, ?_⟩
      unfold rowI at h2
      rcases List.mem_append.mp h2 with z | z
      · rcases List.mem_cons.mp z with z | z
        · exact .inl z
        · obtain ⟨j, g1, g2⟩ := List.mem_map.mp z
          exact .inr (.inl ⟨j, mem_rng.mp g1, g2.symm⟩)
      · exact .inr (.inr (List.mem_singleton.mp z))
    · refine .inr ⟨j, mem_rng.mp h1, ?_⟩
      unfold rowJ at h2
      rcases List.mem_append.mp h2 with z | z
      · exact .inl (List.mem_singleton.mp z)
      · by_cases w : j ∈ L.map Prod.snd
        · rw [if_pos ((hmb j).mpr w)] at z
          cases z
        · rw [if_neg fun y => w ((hmb j).mp y)] at z
          exact .inr ⟨w, List.mem_singleton.mp z⟩
  · rintro (⟨i, h1, h2⟩ | ⟨j, h1, h2⟩)
    · refine .inl ⟨i, mem_rng.mpr h1, ?_⟩
      unfold rowI
      rcases h2 with z | ⟨j, g1, g2⟩ | z
      · rw [z]
        simp
      · exact List.mem_append_left _ (List.mem_cons_of_mem _ (List.mem_map.mpr ⟨j, mem_rng.mpr g1, g2.symm⟩))
      · rw [z]
        simp
    · refine .inr ⟨j, mem_rng.mpr h1, ?_⟩
      unfold rowJ
      rcases h2 with z | ⟨w, z⟩
      · rw [z]
        simp
      · rw [if_neg fun y => w ((hmb j).mp y), z]
        simp
theorem cut_mid {α : Type} {xs : List α} {a b : Nat} (hb : b ≤ xs.length) (hab : a ≤ b) : cutI xs (some (a : Int)) (some (b : Int)) = (xs.drop a).take (b - a) := by
  unfold cutI
  rw [show HT.sIx xs.length 0 (some ((a : Nat) : Int)) = min a xs.length from HT.sIx_nat _ _ a, show HT.sIx xs.length xs.length (some ((b : Nat) : Int)) = min b xs.length from HT.sIx_nat _ _ b, Nat.min_eq_left hb, Nat.min_eq_left (show a ≤ xs.length by omega)]
theorem cut_end {α : Type} {xs : List α} {a : Nat} (ha : a ≤ xs.length) : cutI xs (some (a : Int)) none = xs.drop a := by
  unfold cutI
  rw [show HT.sIx xs.length 0 (some ((a : Nat) : Int)) = min a xs.length from HT.sIx_nat _ _ a, show HT.sIx xs.length xs.length none = xs.length from rfl, Nat.min_eq_left ha, List.take_of_length_le (by rw [List.length_drop]; exact Nat.le_refl _)]
/-- a paper of prices -/
structure Paper (one other : List Col) (price : Int) (paper : List Int × List Int) : Prop where
  l1 : paper.1.length = one.length
  l2 : paper.2.length = other.length
  dual : Dual (Dm one other) price one.length other.length (fun i => paper.1[i]?.getD 0) fun j => paper.2[j]?.getD 0
  sum : paper.1.sum + paper.2.sum = V price other.length (sqsOf one other) 0
theorem paper_ok (h : Two w one other price) : Ok (m_change_paper one other price) (Paper one other price) := by
  have l1 := h.l1
  have l2 := h.l2
  obtain ⟨t1, t2, t3, _⟩ := topV one other price
  obtain ⟨own, more, L', hd, hv', hs⟩ := strong (D := Dm one other) (p := price) (n := one.length) (m := other.length) l1.1 l2.1 (fun i _ j _ => D_nn i j) h.p.1
  have e0 : cst (Dm one other) price one.length other.length (firstP price other.length (sqsOf one other) 0 0) = sm one.length own + sm other.length more := by
    have g1 := t3 L' hv'
    have g2 := weak t1 hd
    omega
  obtain ⟨s1, s2, s3⟩ := tight t1 hd e0
  unfold m_change_paper
  refine Ok.of (least_eq h) (Ok.of rfl (Ok.of (bounds_eq h t1) ?_))
  dsimp only
  generalize hL : firstP price other.length (sqsOf one other) 0 0 = L at t1 t2 e0 s1 s2 s3
  have rngE : ∀ i, (0 ≤ i ∧ i < (one.length : Int)) → rowE one other price L i = (1 + i, 0, 0 - price) ∧ i.toNat ∉ L.map (fun x => x.1.toNat) ∨ ∃ j, (i, j) ∈ L ∧ rowE one other price L i = (1 + i, 1 + (one.length : Int) + j, 0 - Dm one other i.toNat j.toNat) := fun i hi => by
    cases hdg : dget L i with
    | none =>
      refine .inl ⟨by unfold rowE; rw [hdg], fun hm => ?_⟩
      obtain ⟨x, hx, hx2⟩ := List.mem_map.mp hm
      have := t1.rg x hx
      exact dget_none hdg x hx (by omega)
    | some j => exact .inr ⟨j, dget_some hdg, by unfold rowE; rw [hdg]⟩
  let π : Int → Int := fun a => if a ≤ 0 then 0 else if a ≤ (one.length : Int) then own (a - 1).toNat else 0 - more (a - 1 - one.length).toNat
  have π0 : π 0 = 0 := if_pos (Int.le_refl 0)
  have π1 : ∀ i : Int, 0 ≤ i → i < (one.length : Int) → π (1 + i) = own i.toNat := fun i h0 h1 => by
    show (if 1 + i ≤ 0 then 0 else if 1 + i ≤ (one.length : Int) then own (1 + i - 1).toNat else _) = _
    rw [if_neg (by omega), if_pos (by omega), show 1 + i - 1 = i by omega]
  have π2 : ∀ j : Int, 0 ≤ j → π (1 + (one.length : Int) + j) = 0 - more j.toNat := fun j h0 => by
    show (if 1 + (one.length : Int) + j ≤ 0 then 0 else if 1 + (one.length : Int) + j ≤ (one.length : Int) then _ else 0 - more (1 + (one.length : Int) + j - 1 - one.length).toNat) = _
    rw [if_neg (by omega), if_neg (by omega), show 1 + (one.length : Int) + j - 1 - one.length = j by omega]
  obtain ⟨top1, _, top3⟩ := top_ix (k := 1 + one.length + other.length) (fun k => π (k : Int)) (by omega)
  have hin : ∀ r ∈ bnds one other price L, (0 ≤ r.1 ∧ r.1 < ((1 + one.length + other.length : Nat) : Int)) ∧ 0 ≤ r.2.1 ∧ r.2.1 < ((1 + one.length + other.length : Nat) : Int) := fun r hr => by
    rcases mem_bnds.mp hr with ⟨i, hi, z⟩ | ⟨j, hj, z⟩
    · rcases z with z | ⟨j, hj, z⟩ | z
      · subst z
        exact ⟨⟨by omega, by omega⟩, by dsimp only; omega, by dsimp only; omega⟩
      · subst z
        exact ⟨⟨by dsimp only; omega, by dsimp only; omega⟩, by dsimp only; omega, by dsimp only; omega⟩
      · rcases rngE i hi with ⟨e, _⟩ | ⟨j, hj, e⟩
        · rw [z, e]
          exact ⟨⟨by dsimp only; omega, by dsimp only; omega⟩, by dsimp only; omega, by dsimp only; omega⟩
        · have := t1.rg _ hj
          rw [z, e]
          exact ⟨⟨by dsimp only; omega, by dsimp only; omega⟩, by dsimp only; omega, by dsimp only; omega⟩
    · rcases z with z | ⟨_, z⟩
      · subst z
        exact ⟨⟨by dsimp only; omega, by dsimp only; omega⟩, by dsimp only; omega, by dsimp only; omega⟩
      · subst z
        exact ⟨⟨by omega, by omega⟩, by dsimp only; omega, by dsimp only; omega⟩
  have hfeas : ∀ r ∈ bnds one other price L, π r.2.1 ≤ π r.1 + r.2.2 := fun r hr => by
    rcases mem_bnds.mp hr with ⟨i, hi, z⟩ | ⟨j, hj, z⟩
    · have g1 := hd.le1 i.toNat (by omega)
      rcases z with z | ⟨j, hj, z⟩ | z
      · subst z
        dsimp only
        rw [π1 i hi.1 hi.2, π0]
        omega
      · subst z
        dsimp only
        rw [π1 i hi.1 hi.2, π2 j hj.1]
        have := hd.d i.toNat (by omega) j.toNat (by omega)
        omega
      · rcases rngE i hi with ⟨e, hn⟩ | ⟨j, hj, e⟩
        · rw [z, e]
          dsimp only
          rw [π1 i hi.1 hi.2, π0, s2 i.toNat (by omega) hn]
          omega
        · have hrg := t1.rg _ hj
          rw [z, e]
          dsimp only
          rw [π1 i hi.1 hi.2, π2 j hrg.2.1]
          have g2 : own i.toNat + more j.toNat = Dm one other i.toNat j.toNat := s1 _ hj
          omega
    · have g1 := hd.le2 j.toNat (by omega)
      rcases z with z | ⟨hn, z⟩
      · subst z
        dsimp only
        rw [π2 j hj.1, π0]
        omega
      · subst z
        dsimp only
        rw [π2 j hj.1, π0, s3 j.toNat (by omega) fun hm => ?_]
        · omega
        · obtain ⟨x, hx, hx2⟩ := List.mem_map.mp hm
          have := t1.rg x hx
          exact hn (List.mem_map.mpr ⟨x, hx, by omega⟩)
  have hcast : (1 + (one.length : Int)) + (other.length : Int) = ((1 + one.length + other.length : Nat) : Int) := by omega
  rw [hcast]
  refine Ok.bind (within_ok (by omega) hin (π := π) (C := π (top1 : Int)) (fun a a0 a1 => ?_) hfeas) ?_
  · have := top3 a.toNat (by omega)
    rw [Int.toNat_of_nonneg a0] at this
    exact this
  rintro F ⟨hF, hc⟩
  have c1 : cutI F (some (1 : Int)) (some ((1 : Int) + (one.length : Int))) = (F.drop 1).take one.length := by
    have := cut_mid (xs := F) (a := 1) (b := 1 + one.length) (by omega) (by omega)
    rw [show ((1 + one.length : Nat) : Int) = 1 + (one.length : Int) by omega, show 1 + one.length - 1 = one.length by omega] at this
    exact this
  have c2 : cutI F (some ((1 : Int) + (one.length : Int))) none = F.drop (1 + one.length) := by
    have := cut_end (xs := F) (a := 1 + one.length) (by omega)
    rw [show ((1 + one.length : Nat) : Int) = 1 + (one.length : Int) by omega] at this
    exact this
  have lc1 : ((F.drop 1).take one.length).length = one.length := by
    rw [List.length_take, List.length_drop]
    omega
  have lc2 : (F.drop (1 + one.length)).length = other.length := by
    rw [List.length_drop]
    omega
  refine Ok.of (gv_get (F := F) (a := 0) (by omega) (by omega)) ?_
  rw [c1, c2]
  refine ok_len (by omega) (Ok.of rfl (ok_len (by omega) (Ok.mk ?_)))
  have o1 : ∀ i, i < one.length → (((F.drop 1).take one.length).map fun x => x - gv F 0)[i]?.getD 0 = gv F (1 + (i : Int)) - gv F 0 := fun i hi => by
    rw [List.getElem?_map, List.getElem?_take_of_lt hi, List.getElem?_drop]
    have hlt : 1 + i < F.length := by omega
    unfold gv
    rw [List.getElem?_eq_getElem hlt, show (1 + (i : Int)).toNat = 1 + i by omega, List.getElem?_eq_getElem hlt]
    rfl
  have o2 : ∀ j, j < other.length → ((F.drop (1 + one.length)).map fun x => gv F 0 - x)[j]?.getD 0 = gv F 0 - gv F (1 + (one.length : Int) + j) := fun j hj => by
    rw [List.getElem?_map, List.getElem?_drop]
    have hlt : 1 + one.length + j < F.length := by omega
    have e1 : (1 + (one.length : Int) + j).toNat = 1 + one.length + j := by omega
    unfold gv
    rw [List.getElem?_eq_getElem hlt, e1, List.getElem?_eq_getElem hlt]
    rfl
  have cI : ∀ i : Int, 0 ≤ i → i < (one.length : Int) → gv F (1 + i) ≤ gv F 0 + price := fun i a b => hc _ (mem_bnds.mpr (.inl ⟨i, ⟨a, b⟩, .inl rfl⟩))
  have cD : ∀ i j : Int, 0 ≤ i → i < (one.length : Int) → 0 ≤ j → j < (other.length : Int) → gv F (1 + i) ≤ gv F (1 + (one.length : Int) + j) + Dm one other i.toNat j.toNat := fun i j a b c d => hc _ (mem_bnds.mpr (.inl ⟨i, ⟨a, b⟩, .inr (.inl ⟨j, ⟨c, d⟩, rfl⟩)⟩))
  have cJ : ∀ j : Int, 0 ≤ j → j < (other.length : Int) → gv F 0 ≤ gv F (1 + (one.length : Int) + j) + price := fun j a b => hc _ (mem_bnds.mpr (.inr ⟨j, ⟨a, b⟩, .inl rfl⟩))
  have hdual : Dual (Dm one other) price one.length other.length (fun i => (((F.drop 1).take one.length).map fun x => x - gv F 0)[i]?.getD 0) fun j => ((F.drop (1 + one.length)).map fun x => gv F 0 - x)[j]?.getD 0 := by
    refine ⟨fun i hi => ?_, fun j hj => ?_, fun i hi j hj => ?_⟩
    · rw [o1 i hi]
      have := cI i (by omega) (by omega)
      omega
    · rw [o2 j hj]
      have := cJ j (by omega) (by omega)
      omega
    · rw [o1 i hi, o2 j hj]
      have := cD i j (by omega) (by omega) (by omega) (by omega)
      rw [Int.toNat_natCast, Int.toNat_natCast] at this
      omega
  refine ⟨by rw [List.length_map]; exact lc1, by rw [List.length_map]; exact lc2, hdual, ?_⟩
  have hsl := slack (D := Dm one other) (p := price) t1 (fun i => (((F.drop 1).take one.length).map fun x => x - gv F 0)[i]?.getD 0) fun j => ((F.drop (1 + one.length)).map fun x => gv F 0 - x)[j]?.getD 0
  have z1 : (L.map fun x => Dm one other x.1.toNat x.2.toNat - (((F.drop 1).take one.length).map fun x => x - gv F 0)[x.1.toNat]?.getD 0 - ((F.drop (1 + one.length)).map fun x => gv F 0 - x)[x.2.toNat]?.getD 0).sum = 0 := by
    have e : (L.map fun x => Dm one other x.1.toNat x.2.toNat - (((F.drop 1).take one.length).map fun x => x - gv F 0)[x.1.toNat]?.getD 0 - ((F.drop (1 + one.length)).map fun x => gv F 0 - x)[x.2.toNat]?.getD 0) = L.map fun _ => (0 : Int) := List.map_congr_left fun x hx => by
      have hrg := t1.rg x hx
      rw [o1 _ (by omega), o2 _ (by omega), Int.toNat_of_nonneg hrg.1.1, Int.toNat_of_nonneg hrg.2.1]
      have g1 := cD x.1 x.2 hrg.1.1 hrg.1.2 hrg.2.1 hrg.2.2
      rcases rngE x.1 hrg.1 with ⟨_, hn⟩ | ⟨j, hj, e⟩
      · exact absurd (List.mem_map.mpr ⟨x, hx, rfl⟩) hn
      · have hj2 : j = x.2 := by
          exact pair_fun t1.pw hj hx rfl
        have g2 := hc _ (mem_bnds.mpr (.inl ⟨x.1, hrg.1, .inr (.inr rfl)⟩))
        rw [e, hj2] at g2
        dsimp only at g2
        omega
    rw [e]
    exact zsum L
  have z2 : (sm one.length fun i => if i ∈ L.map (fun x => x.1.toNat) then 0 else price - (((F.drop 1).take one.length).map fun x => x - gv F 0)[i]?.getD 0) = 0 := by
    rw [sm_eq (g := fun _ => 0), sm_const, Int.mul_zero]
    intro i hi
    by_cases hm : i ∈ L.map (fun x => x.1.toNat)
    · rw [if_pos hm]
    · rw [if_neg hm, o1 i hi]
      have g1 := cI i (by omega) (by omega)
      rcases rngE i ⟨by omega, by omega⟩ with ⟨e, _⟩ | ⟨j, hj, _⟩
      · have g2 := hc _ (mem_bnds.mpr (.inl ⟨i, ⟨by omega, by omega⟩, .inr (.inr rfl)⟩))
        rw [e] at g2
        dsimp only at g2
        omega
      · exact absurd (List.mem_map.mpr ⟨_, hj, Int.toNat_natCast i⟩) hm
  have z3 : (sm other.length fun j => if j ∈ L.map (fun x => x.2.toNat) then 0 else price - ((F.drop (1 + one.length)).map fun x => gv F 0 - x)[j]?.getD 0) = 0 := by
    rw [sm_eq (g := fun _ => 0), sm_const, Int.mul_zero]
    intro j hj
    by_cases hm : j ∈ L.map (fun x => x.2.toNat)
    · rw [if_pos hm]
    · rw [if_neg hm, o2 j hj]
      have g1 := cJ j (by omega) (by omega)
      have hn : (j : Int) ∉ L.map Prod.snd := fun z => by
        obtain ⟨x, hx, e⟩ := List.mem_map.mp z
        exact hm (List.mem_map.mpr ⟨x, hx, by rw [e]; exact Int.toNat_natCast j⟩)
      have g2 := hc _ (mem_bnds.mpr (.inr ⟨j, ⟨by omega, by omega⟩, .inr ⟨hn, rfl⟩⟩))
      dsimp only at g2
      omega
  rw [z1, z2, z3, t2] at hsl
  show (((F.drop 1).take one.length).map fun x => x - gv F 0).sum + ((F.drop (1 + one.length)).map fun x => gv F 0 - x).sum = _
  rw [sum_gv, sum_gv, List.length_map, List.length_map, lc1, lc2]
  omega
end
/-! ### change4 -/
/-! #### what shows a change -/
section
variable {w : Nat} {one other : List Col} {price : Int} {L : Pairs} {paper : List Int × List Int}
theorem alls {α : Type} (l : List α) : List.all (l.map fun _ => true) id = true := by
  rw [List.all_eq_true]
  intro x hx
  obtain ⟨_, _, rfl⟩ := List.mem_map.mp hx
  rfl
theorem pairw_eq {x : Int × Int} {n m : Int} (h1 : 0 ≤ x.1 ∧ x.1 < n) (h2 : 0 ≤ x.2 ∧ x.2 < m) : m_is_pair_within x n m = some true := by
  refine Ok.eq ?_
  unfold m_is_pair_within
  refine Ok.bind (P := fun b => b = false) (ok_cond (fun z => by cases z) fun _ => Ok.bind (P := fun b => b = false) (ok_cond (fun z => by simp at z) fun _ => ok_len (by simp) (Ok.of (a := [true, true]) rfl (Ok.mk rfl))) fun b hb => Ok.mk hb) ?_
  rintro b rfl
  refine ok_cond (fun z => by cases z) fun _ => Ok.mk ?_
  rw [decide_eq_true h1.1, decide_eq_true h1.2, decide_eq_true h2.1, decide_eq_true h2.2]
  rfl
theorem pairs_eq {n m : Nat} (hn : n ≤ 5) (hv : Val n m L) : m_are_pairs L (n : Int) (m : Int) = some true := by
  have hl := vlen hv
  refine Ok.eq ?_
  unfold m_are_pairs
  refine Ok.bind (P := fun b => b = false) (ok_cond (fun z => by cases z) fun _ => ok_len (by omega) (Ok.of (mapO_of (g := fun _ => true) fun x hx => ?_) (Ok.mk (by rw [alls]; rfl)))) ?_
  · have := hv.rg x hx
    exact Ok.eq (Ok.of (pairw_eq this.1 this.2) (Ok.mk rfl))
  rintro b rfl
  refine ok_cond (fun z => by cases z) fun _ => ok_rng (by omega) (by omega) (ok_len (by rw [rng_len]; omega) (Ok.of (mapO_of (g := fun _ => true) fun k hk => ?_) ?_))
  · have hk2 := mem_rng.mp hk
    have h1 : k.toNat < L.length := by omega
    have h2 : k.toNat + 1 < L.length := by omega
    have hp := (List.pairwise_iff_getElem.mp hv.pw) k.toNat (k.toNat + 1) h1 h2 (by omega)
    refine Ok.eq (Ok.of (getI_nat hk2.1 (List.getElem?_eq_getElem h1)) (Ok.of (getI_nat (i := k + 1) (by omega) (by rw [show (k + 1).toNat = k.toNat + 1 by omega]; exact List.getElem?_eq_getElem h2)) (Ok.mk ?_)))
    exact decide_eq_true hp.1
  · rw [alls]
    have hnd : (L.map Prod.snd).Nodup := List.pairwise_map.mpr (hv.pw.imp fun h => h.2)
    refine ok_cond (fun z => by cases z) fun _ => ok_len (by omega) (Ok.of (a := L.map Prod.snd) rfl (Ok.of (a := ((L.map Prod.snd).length : Int)) ?_ (Ok.mk (decide_eq_true rfl))))
    unfold setG
    rw [if_pos ⟨hnd, by rw [List.length_map]; omega⟩]
theorem prices_eq {thing : List Int} {n : Int} (h : (thing.length : Int) = n) (hl : thing.length ≤ 1000) : m_are_prices thing n price = some (thing.all fun x => decide (x ≤ price)) := by
  refine Ok.eq ?_
  unfold m_are_prices
  refine ok_cond (fun z => ?_) fun _ => ok_len (by omega) (Ok.of (mapO_of (g := fun x => decide (x ≤ price)) fun x _ => rfl) (Ok.mk ?_))
  · rw [decide_eq_true h] at z
    cases z
  · rw [List.all_map]
    rfl
def keeps (one other : List Col) (price : Int) (paper : List Int × List Int) : Bool := (paper.1.all fun x => decide (x ≤ price)) && ((paper.2.all fun x => decide (x ≤ price)) && (List.zip one paper.1).all fun x => (List.zip other paper.2).all fun y => decide (x.2 + y.2 ≤ ap x.1 y.1))
theorem shows_eq (h : Two w one other price) (hv : Val one.length other.length L) (h1 : paper.1.length = one.length) (h2 : paper.2.length = other.length) : m_shows_change one other price L paper = some (keeps one other price paper && decide (paper.1.sum + paper.2.sum = cst (Dm one other) price one.length other.length L)) := by
  have l1 := h.l1
  have l2 := h.l2
  have hw := h.wl
  refine Ok.eq ?_
  unfold m_shows_change keeps
  refine Ok.of (pairs_eq l1.2 hv) (ok_cond (fun z => by cases z) fun _ => ok_cond (fun z => by simp at z) fun _ => Ok.of (prices_eq (by omega) (by omega)) ?_)
  cases e1 : paper.1.all fun x => decide (x ≤ price) with
  | false =>
    refine Ok.of (a := true) rfl (ok_cond (fun _ => Ok.mk rfl) fun z => by cases z)
  | true =>
    refine Ok.bind (P := fun b => b = !(paper.2.all fun x => decide (x ≤ price))) (ok_cond (fun z => by cases z) fun _ => Ok.of (prices_eq (by omega) (by omega)) (Ok.mk rfl)) ?_
    rintro b rfl
    cases e2 : paper.2.all fun x => decide (x ≤ price) with
    | false => exact ok_cond (fun _ => Ok.mk rfl) fun z => by cases z
    | true =>
      refine ok_cond (fun z => by cases z) fun _ => ?_
      refine Ok.of (forC_find (t := fun x : Col × Int => !((List.zip other paper.2).all fun y => decide (x.2 + y.2 ≤ ap x.1 y.1))) (r := fun _ => false) fun x hx => ?_) ?_
      · have hx1 := h.g1 _ (List.of_mem_zip hx).1
        refine Ok.eq (ok_len (by rw [List.length_zip]; omega) (Ok.of (mapO_of (g := fun y : Col × Int => decide (x.2 + y.2 ≤ ap x.1 y.1)) fun y hy => ?_) ?_))
        · have hy1 := h.g2 _ (List.of_mem_zip hy).1
          exact Ok.eq (Ok.of (apart_eq (by omega) hx1 hy1) (Ok.mk rfl))
        · rw [List.all_map]
          show Ok (cond (!((List.zip other paper.2).all fun y => decide (x.2 + y.2 ≤ ap x.1 y.1))) _ _) _
          cases ((List.zip other paper.2).all fun y => decide (x.2 + y.2 ≤ ap x.1 y.1)) with
          | true => exact Ok.mk rfl
          | false => exact Ok.mk rfl
      · cases e3 : (List.zip one paper.1).find? (fun x : Col × Int => !((List.zip other paper.2).all fun y => decide (x.2 + y.2 ≤ ap x.1 y.1))) with
        | none =>
          have e4 : ((List.zip one paper.1).all fun x => (List.zip other paper.2).all fun y => decide (x.2 + y.2 ≤ ap x.1 y.1)) = true := by
            rw [List.all_eq_true]
            intro x hx
            have := List.find?_eq_none.mp e3 x hx
            simpa using this
          rw [e4]
          exact Ok.of (cost_eq h hv) (Ok.mk rfl)
        | some x =>
          have e4 : ((List.zip one paper.1).all fun x => (List.zip other paper.2).all fun y => decide (x.2 + y.2 ≤ ap x.1 y.1)) = false := by
            rw [List.all_eq_false]
            exact ⟨x, List.mem_of_find?_eq_some e3, by have := List.find?_some e3; simpa using this⟩
          rw [e4]
          exact Ok.mk rfl
theorem zip_at {α β : Type} {xs : List α} {ys : List β} {x : α × β} (h : x ∈ List.zip xs ys) : ∃ i : Nat, xs[i]? = some x.1 ∧ ys[i]? = some x.2 := by
  obtain ⟨i, hi⟩ := List.mem_iff_getElem?.mp h
  exact ⟨i, (List.getElem?_zip_eq_some.mp hi).1, (List.getElem?_zip_eq_some.mp hi).2⟩
theorem keeps_iff (h1 : paper.1.length = one.length) (h2 : paper.2.length = other.length) : keeps one other price paper = true ↔ Dual (Dm one other) price one.length other.length (fun i => paper.1[i]?.getD 0) fun j => paper.2[j]?.getD 0 := by
  unfold keeps
  rw [Bool.and_eq_true, Bool.and_eq_true, List.all_eq_true, List.all_eq_true, List.all_eq_true]
  constructor
  · rintro ⟨a1, a2, a3⟩
    refine ⟨fun i hi => ?_, fun j hj => ?_, fun i hi j hj => ?_⟩
    · rw [List.getElem?_eq_getElem (by omega)]
      exact of_decide_eq_true (a1 _ (List.getElem_mem (by omega)))
    · rw [List.getElem?_eq_getElem (by omega)]
      exact of_decide_eq_true (a2 _ (List.getElem_mem (by omega)))
    · have hi2 : i < paper.1.length := by omega
      have hj2 : j < paper.2.length := by omega
      have b1 := a3 (one[i], paper.1[i]) (List.mem_of_getElem? (i := i) (List.getElem?_zip_eq_some.mpr ⟨List.getElem?_eq_getElem hi, List.getElem?_eq_getElem hi2⟩))
      rw [List.all_eq_true] at b1
      have b2 := b1 (other[j], paper.2[j]) (List.mem_of_getElem? (i := j) (List.getElem?_zip_eq_some.mpr ⟨List.getElem?_eq_getElem hj, List.getElem?_eq_getElem hj2⟩))
      rw [List.getElem?_eq_getElem hi2, List.getElem?_eq_getElem hj2, Dm_eq hi hj]
      exact of_decide_eq_true b2
  · intro hd
    refine ⟨fun x hx => ?_, fun x hx => ?_, fun x hx => ?_⟩
    · obtain ⟨i, hi⟩ := List.mem_iff_getElem?.mp hx
      have := hd.le1 i (by have := (List.getElem?_eq_some_iff.mp hi).1; omega)
      rw [hi] at this
      exact decide_eq_true this
    · obtain ⟨i, hi⟩ := List.mem_iff_getElem?.mp hx
      have := hd.le2 i (by have := (List.getElem?_eq_some_iff.mp hi).1; omega)
      rw [hi] at this
      exact decide_eq_true this
    · obtain ⟨i, g1, g2⟩ := zip_at hx
      rw [List.all_eq_true]
      intro y hy
      obtain ⟨j, g3, g4⟩ := zip_at hy
      have i1 := (List.getElem?_eq_some_iff.mp g1).1
      have j1 := (List.getElem?_eq_some_iff.mp g3).1
      have := hd.d i i1 j j1
      rw [g2, g4, Dm_eq i1 j1] at this
      have e1 : one[i] = x.1 := by rw [List.getElem?_eq_getElem i1] at g1; exact Option.some.inj g1
      have e2 : other[j] = y.1 := by rw [List.getElem?_eq_getElem j1] at g3; exact Option.some.inj g3
      rw [e1, e2] at this
      exact decide_eq_true this
theorem paper_weak (h1 : paper.1.length = one.length) (h2 : paper.2.length = other.length) (hk : keeps one other price paper = true) (hv : Val one.length other.length L) : paper.1.sum + paper.2.sum ≤ cst (Dm one other) price one.length other.length L := by
  have := weak hv ((keeps_iff h1 h2).mp hk)
  rw [sum_gv, sum_gv, h1, h2]
  exact this
end
/-! ### two -/
/-! #### two palettes drawn -/
theorem few_ok {n : Nat} {left : List Int} {kind : Int × Int} {most : Int} (hk : Kind kind) (h : Lk n left) (hn : n ≤ 900000) (hm : 1 ≤ most ∧ most ≤ 5) : Ok (m_law_few left kind most) fun r => (∀ c ∈ r.1, Good kind.1.toNat c) ∧ (0 < r.1.length ∧ r.1.length ≤ 5) ∧ Lk (n + 100) r.2 := by
  unfold m_law_few
  refine Ok.bind (pick_ok h (by omega) (by omega) (by omega)) ?_
  rintro ⟨t, c⟩ ⟨h1, h2, h3⟩
  dsimp only at h1 h2 h3 ⊢
  have hl : (rng 0 (1 + t)).length = (1 + t).toNat := by rw [rng_len]; omega
  refine ok_rng (by omega) (by omega) (Ok.bind (ok_forN (fun k (s : List Int × List Col) => Lk (n + 1 + 12 * k) s.1 ∧ s.2.length = k ∧ ∀ c ∈ s.2, Good kind.1.toNat c) ⟨h3, rfl, fun _ h => nomatch h⟩ ?_) ?_)
  · rintro j x ⟨lf, found⟩ _ hj ⟨i1, i2, i3⟩
    have i2' : found.length = j := i2
    refine Ok.bind (colour_ok hk i1 (by omega)) ?_
    rintro ⟨col, lf2⟩ ⟨p1, p2⟩
    refine Ok.bind (P := fun (r : Bool × List Int) => (r.1 = true → found ≠ []) ∧ Lk (n + 1 + 12 * j + 11) r.2) (ok_cond (fun hf => ?_) fun _ => Ok.mk ⟨fun z => (nomatch z), p2.mono (by omega)⟩) ?_
    · refine Ok.bind (pick_ok p2 (by omega) (by omega) (by omega)) ?_
      rintro ⟨t3, lf3⟩ ⟨_, _, q3⟩
      exact Ok.mk ⟨fun _ => by simpa using hf, q3.mono (by omega)⟩
    · rintro ⟨b, lf3⟩ ⟨q1, q2⟩
      refine Ok.bind (P := fun (r : Col × List Int) => Good kind.1.toNat r.1 ∧ Lk (n + 1 + 12 * (j + 1)) r.2) (ok_cond (fun hb => ?_) fun _ => Ok.mk ⟨p1, q2.mono (by omega)⟩) ?_
      · have h0 : found.length ≠ 0 := fun z => q1 hb (List.length_eq_zero_iff.mp z)
        refine Ok.bind (pick_ok q2 (by omega) (by omega) (by omega)) ?_
        rintro ⟨t3, lf4⟩ ⟨r1, r2, r3⟩
        exact ok_get r1 r2 fun y _ hy => Ok.mk ⟨i3 y hy, r3.mono (by omega)⟩
      · rintro ⟨col2, lf4⟩ ⟨r1, r2⟩
        refine ok_len (by show found.length ≤ _; omega) (Ok.mk ⟨r2, ?_, fun z hz => ?_⟩)
        · show (found ++ [col2]).length = j + 1
          rw [List.length_append, i2']
          rfl
        · rcases List.mem_append.mp hz with hz | hz
          · exact i3 z hz
          · rw [List.mem_singleton.mp hz]
            exact r1
  · rintro ⟨lf, found⟩ ⟨i1, i2, i3⟩
    dsimp only at i1 i2 i3 ⊢
    exact Ok.mk ⟨i3, ⟨by show 0 < found.length; omega, by show found.length ≤ 5; omega⟩, i1.mono (by omega)⟩
theorem setI_mem {α : Type} {xs : List α} {i : Int} {x : α} (h0 : 0 ≤ i) (h1 : i < xs.length) : ∃ ys, setI xs i x = some ys ∧ ys.length = xs.length ∧ ∀ y ∈ ys, y ∈ xs ∨ y = x := by
  have h2 := List.getElem?_eq_getElem (l := xs) (i := i.toNat) (by omega)
  obtain ⟨k, k1, _⟩ := getI_ix (getI_nat h0 h2)
  refine ⟨xs.set k x, by unfold setI; rw [k1]; rfl, List.length_set, fun y hy => List.mem_or_eq_of_mem_set hy⟩
theorem two_ok {n : Nat} {left : List Int} {most : Int} (h : Lk n left) (hn : n ≤ 800000) (hm : 1 ≤ most ∧ most ≤ 5) : Ok (m_law_two left most) fun r => ∃ w, w ≤ 5 ∧ (∀ c ∈ r.1.1, Good w c) ∧ (∀ c ∈ r.1.2, Good w c) ∧ (0 < r.1.1.length ∧ r.1.1.length ≤ 5) ∧ (0 < r.1.2.length ∧ r.1.2.length ≤ 5) ∧ Lk (n + 300) r.2 := by
  unfold m_law_two
  refine Ok.bind (kind_ok h (by omega)) ?_
  rintro ⟨kind, lf1⟩ ⟨hk, l1⟩
  dsimp only at hk l1 ⊢
  refine Ok.bind (few_ok hk l1 (by omega) hm) ?_
  rintro ⟨one, lf2⟩ ⟨g1, n1, l2⟩
  dsimp only at g1 n1 l2 ⊢
  refine Ok.bind (few_ok hk l2 (by omega) hm) ?_
  rintro ⟨other, lf3⟩ ⟨g2, n2, l3⟩
  dsimp only at g2 n2 l3 ⊢
  have hl : (rng 0 (other.length : Int)).length = other.length := by rw [rng_len]; omega
  refine ok_rng (by omega) (by omega) (Ok.bind (ok_forN (fun k (s : List Int × List Col) => Lk (n + 202 + 2 * k) s.1 ∧ s.2.length = other.length ∧ ∀ c ∈ s.2, Good kind.1.toNat c) ⟨l3, rfl, g2⟩ ?_) ?_)
  · rintro j x ⟨lf, found⟩ hx hj ⟨i1, i2, i3⟩
    dsimp only at i1 i2 i3 ⊢
    have hx2 := mem_rng.mp hx
    refine Ok.bind (pick_ok i1 (by omega) (by omega) (by omega)) ?_
    rintro ⟨t, c⟩ ⟨_, _, q3⟩
    dsimp only at q3 ⊢
    refine Ok.bind (P := fun (r : List Int × List Col) => Lk (n + 202 + 2 * (j + 1)) r.1 ∧ r.2.length = other.length ∧ ∀ c ∈ r.2, Good kind.1.toNat c) (ok_cond (fun _ => ?_) fun _ => Ok.mk ⟨q3.mono (by omega), i2, i3⟩) fun r hr => Ok.mk hr
    refine Ok.bind (pick_ok q3 (by omega) (by omega) (by omega)) ?_
    rintro ⟨u, c2⟩ ⟨u1, u2, u3⟩
    dsimp only at u1 u2 u3 ⊢
    refine ok_get u1 u2 fun y _ hy => ?_
    obtain ⟨ys, s1, s2, s3⟩ := setI_mem (xs := found) (i := x) (x := y) hx2.1 (by omega)
    refine Ok.of s1 (Ok.mk ⟨u3.mono (by omega), s2.trans i2, fun z hz => ?_⟩)
    rcases s3 z hz with w | w
    · exact i3 z w
    · rw [w]
      exact g1 y hy
  · rintro ⟨lf, found⟩ ⟨i1, i2, i3⟩
    dsimp only at i1 i2 i3 ⊢
    exact Ok.mk ⟨kind.1.toNat, by have := hk.1.2; omega, g1, i3, n1, by dsimp only; omega, i1.mono (by omega)⟩
theorem ap_le {w : Nat} {a b : Col} (ha : Good w a) (hb : Good w b) : ap a b ≤ 1000000 * w := by
  have h1 : ∀ l : List (Int × Int), (∀ p ∈ l, (p.1 - p.2) * (p.1 - p.2) ≤ 1000000) → (l.map fun p => (p.1 - p.2) * (p.1 - p.2)).sum ≤ 1000000 * l.length := fun l => by
    induction l with
    | nil => intro _; exact Int.le_refl _
    | cons x l ih =>
      intro h
      rw [List.map_cons, List.sum_cons, List.length_cons]
      have g1 := h x List.mem_cons_self
      have g2 := ih fun y hy => h y (List.mem_cons_of_mem _ hy)
      omega
  have h2 := h1 (List.zip a b) fun p hp => by
    have e1 := ha.2 p.1 (List.of_mem_zip hp).1
    have e2 := hb.2 p.2 (List.of_mem_zip hp).2
    have e3 : (p.1 - p.2) * (p.1 - p.2) ≤ 1000 * 1000 := by
      rcases Int.le_total 0 (p.1 - p.2) with z | z
      · exact Int.mul_le_mul (by omega) (by omega) z (by omega)
      · rw [← Int.neg_mul_neg]
        exact Int.mul_le_mul (by omega) (by omega) (by omega) (by omega)
    omega
  rw [List.length_zip, ha.1, hb.1, Nat.min_self] at h2
  exact h2
theorem price_ok {n w : Nat} {left : List Int} {one other : List Col} (hw : w ≤ 5) (g1 : ∀ c ∈ one, Good w c) (g2 : ∀ c ∈ other, Good w c) (n1 : 0 < one.length ∧ one.length ≤ 5) (n2 : 0 < other.length ∧ other.length ≤ 5) (h : Lk n left) (hn : n ≤ 800000) : Ok (m_law_price left one other) fun r => (0 ≤ r.1 ∧ r.1 ≤ 10000000) ∧ Lk (n + 10) r.2 := by
  unfold m_law_price
  rw [lapart_eq]
  refine Ok.bind (pick_ok h (by omega) (by omega) (by omega)) ?_
  rintro ⟨a, c1⟩ ⟨a1, a2, a3⟩
  dsimp only at a1 a2 a3 ⊢
  refine Ok.bind (pick_ok a3 (by omega) (by omega) (by omega)) ?_
  rintro ⟨b, c2⟩ ⟨b1, b2, b3⟩
  dsimp only at b1 b2 b3 ⊢
  refine ok_get a1 a2 fun x _ hx => ok_get b1 b2 fun y _ hy => Ok.of (apart_eq (by omega) (g1 x hx) (g2 y hy)) (Ok.bind (pick_ok b3 (by omega) (by omega) (by omega)) ?_)
  rintro ⟨t, c3⟩ ⟨t1, t2, t3⟩
  dsimp only at t1 t2 t3 ⊢
  refine Ok.of (fdiv_two _) (Ok.bind (pick_ok t3 (by omega) (by omega) (by omega)) ?_)
  rintro ⟨u, c4⟩ ⟨u1, u2, u3⟩
  dsimp only at u1 u2 u3 ⊢
  refine Ok.of rfl (Ok.bind (pick_ok u3 (by omega) (by omega) (by omega)) ?_)
  rintro ⟨v, c5⟩ ⟨v1, v2, v3⟩
  dsimp only at v1 v2 v3 ⊢
  refine ok_len (by simp) (Ok.of rfl (Ok.bind (pick_ok v3 (by omega) (by omega) (by omega)) ?_))
  rintro ⟨z, c6⟩ ⟨z1, z2, z3⟩
  dsimp only at z1 z2 z3 ⊢
  have hap := ap_nn x y
  have hap2 := ap_le (g1 x hx) (g2 y hy)
  refine ok_get z1 z2 fun p _ hp => Ok.mk ⟨?_, z3.mono (by omega)⟩
  have hp2 : 0 ≤ p := by
    simp only [List.cons_append, List.nil_append, List.mem_cons, List.not_mem_nil, or_false] at hp
    omega
  unfold min2
  dsimp only
  split <;> omega
/-! ### enum -/
theorem enum_at {α : Type} {xs : List α} {q r : List (Int × α)} {i : Int} {x : α} (h : enumI xs = q ++ (i, x) :: r) : i = (q.length : Int) ∧ xs[q.length]? = some x := by
  have h1 := congrArg (fun l => l[q.length]?) h
  have h2 : (q ++ (i, x) :: r)[q.length]? = some (i, x) := by
    rw [List.getElem?_append_right (Nat.le_refl _), Nat.sub_self]
    rfl
  have h3 : (enumI xs)[q.length]? = some (i, x) := h1.trans h2
  unfold enumI at h3
  rw [List.getElem?_map, List.getElem?_zipIdx] at h3
  cases e : xs[q.length]? with
  | none => rw [e] at h3; cases h3
  | some y =>
    rw [e] at h3
    have h4 := Option.some.inj h3
    have h5 : (((0 + q.length : Nat) : Int), y) = (i, x) := h4
    rw [Prod.mk.injEq] at h5
    exact ⟨by omega, by rw [h5.2]⟩
theorem enum_len {α : Type} (xs : List α) : (enumI xs).length = xs.length := by
  unfold enumI
  rw [List.length_map, List.length_zipIdx]
noncomputable def tailM (v_one v_other : List (List Int)) (v_price : Int) (c0_ own_ more_ : List Int) : Option (((List Int) × (List Int)) × (List Int)) :=
  ((m_law_pick c0_ (4 : Int)).bind fun (t35, c36) => ((rngG 0 t35).bind fun rg38 => ((forF (fun (s_ : (List Int) × (List Int) × (List Int)) => (fun (v_turn40 : Int) => (fun (c70 : (List Int)) (c71 : (List Int)) (c72 : (List Int)) => ((m_law_pick c70 (List.length c71 : Int)).bind fun (t97, c98) => ((m_law_pick c98 (List.length c72 : Int)).bind fun (t100, c101) => ((m_law_pick c101 (4 : Int)).bind fun (t103, c104) => ((getI ([(1 : Int), (-(1 : Int)), (3 : Int), (-(10 : Int))] : (List Int)) t103).bind fun t106 => ((getI c71 t97).bind fun t108 => ((getI c72 t100).bind fun t110 => ((m_law_pick c104 (2 : Int)).bind fun (t112, c113) => ((getI ([t106, (0 : Int)] : (List Int)) t112).bind fun t115 => ((setI c71 t97 (((t108 + t106), (t110 - t115))).1).bind fun c117 => ((setI c72 t100 (((t108 + t106), (t110 - t115))).2).bind fun c119 => some (c113, c117, c119)))))))))))) s_.1 s_.2.1 s_.2.2)) (c36, own_, more_) rg38).bind fun (c121, c122, c123) => ((m_law_pick c121 (2 : Int)).bind fun (t124, c125) => (cond (decide (t124 = (0 : Int))) (((lenG (List.length c123)).bind fun u129 => ((forF (fun (s_ : (List Int)) => (fun (p_ : (Int × (List Int))) => (fun (v_i131 : Int) (v_colour132 : (List Int)) => (fun (c160 : (List Int)) => ((getI c160 v_i131).bind fun t182 => ((rngG 0 (List.length v_other : Int)).bind fun rg184 => ((lenG (List.length rg184)).bind fun u193 => ((mapO (fun (v_j186 : Int) => ((getI v_other v_j186).bind fun t187 => ((m_law_apart v_colour132 t187).bind fun t189 => ((getI (List.map (fun (v_number128 : Int) => (min2 v_number128 v_price)) c123) v_j186).bind fun t191 => some (t189 - t191))))) rg184).bind fun o195 => ((lenG (List.length ([t182, v_price] : (List Int)) + List.length o195)).bind fun u197 => ((minL (EncO.lt dI) (([t182, v_price] : (List Int)) ++ o195)).bind fun t199 => ((setI c160 v_i131 t199).bind fun c201 => some c201)))))))) s_) p_.1 p_.2)) c122 (enumI v_one)).bind fun c203 => some ((c203, (List.map (fun (v_number128 : Int) => (min2 v_number128 v_price)) c123)), c125)))) (some ((c122, c123), c125)))))))
theorem max_is {l : List Int} (h : l ≠ []) : Ok (maxL (EncO.lt dI) l) fun m => m ∈ l ∧ ∀ y ∈ l, y ≤ m := by
  have key : ∀ (xs : List Int) (a : Int), (xs.foldl (fun a y => if ltI a y = true then y else a) a = a ∨ xs.foldl (fun a y => if ltI a y = true then y else a) a ∈ xs) ∧ a ≤ xs.foldl (fun a y => if ltI a y = true then y else a) a ∧ ∀ y ∈ xs, y ≤ xs.foldl (fun a y => if ltI a y = true then y else a) a := by
    intro xs
    induction xs with
    | nil => intro a; exact ⟨.inl rfl, Int.le_refl _, fun _ h => nomatch h⟩
    | cons x xs ih =>
      intro a
      obtain ⟨g1, g2, g3⟩ := ih (if ltI a x = true then x else a)
      show (xs.foldl _ (if ltI a x = true then x else a) = a ∨ xs.foldl _ (if ltI a x = true then x else a) ∈ x :: xs) ∧ a ≤ xs.foldl _ (if ltI a x = true then x else a) ∧ ∀ y ∈ x :: xs, y ≤ xs.foldl _ (if ltI a x = true then x else a)
      by_cases hc : a < x
      · rw [if_pos (show ltI a x = true from decide_eq_true hc)] at g1 g2 g3 ⊢
        refine ⟨.inr ?_, by omega, fun y hy => ?_⟩
        · rcases g1 with z | z
          · rw [z]
            exact List.mem_cons_self
          · exact List.mem_cons_of_mem _ z
        · rcases List.mem_cons.mp hy with z | z
          · rw [z]
            exact g2
          · exact g3 y z
      · rw [if_neg (show ¬ ltI a x = true from fun z => hc (of_decide_eq_true z))] at g1 g2 g3 ⊢
        refine ⟨?_, g2, fun y hy => ?_⟩
        · rcases g1 with z | z
          · exact .inl z
          · exact .inr (List.mem_cons_of_mem _ z)
        · rcases List.mem_cons.mp hy with z | z
          · rw [z]
            omega
          · exact g3 y z
  cases l with
  | nil => exact absurd rfl h
  | cons x xs =>
    obtain ⟨g1, g2, g3⟩ := key xs x
    refine Ok.mk ⟨?_, fun y hy => ?_⟩
    · rcases g1 with z | z
      · have : xs.foldl (fun a y => if ltI a y = true then y else a) x ∈ x :: xs := by rw [z]; exact List.mem_cons_self
        exact this
      · exact List.mem_cons_of_mem _ z
    · rcases List.mem_cons.mp hy with z | z
      · rw [z]
        exact g2
      · exact g3 y z
section
variable {w : Nat} {one other : List Col} {price : Int} {L : Pairs} {paper : List Int × List Int}
theorem setI_len {xs : List Int} {i x : Int} (h0 : 0 ≤ i) (h1 : i < xs.length) : ∃ ys, setI xs i x = some ys ∧ ys.length = xs.length := by
  obtain ⟨ys, h, h2, _⟩ := setI_mem (xs := xs) (i := i) (x := x) h0 h1
  exact ⟨ys, h, h2⟩
theorem tail_ok {n : Nat} {c own more : List Int} (h : Two w one other price) (hl : Lk n c) (hn : n ≤ 800000) (o1 : own.length = one.length) (m1 : more.length = other.length) : Ok (tailM one other price c own more) fun r => r.1.1.length = one.length ∧ r.1.2.length = other.length ∧ Lk (n + 20) r.2 := by
  have l1 := h.l1
  have l2 := h.l2
  have hw := h.wl
  unfold tailM
  rw [lapart_eq]
  refine Ok.bind (pick_ok hl (by omega) (by omega) (by omega)) ?_
  rintro ⟨t, c1⟩ ⟨t1, t2, t3⟩
  dsimp only at t1 t2 t3 ⊢
  have lt : (rng 0 t).length = t.toNat := by rw [rng_len]; omega
  refine ok_rng (by omega) (by omega) (Ok.bind (ok_forN (fun k (s : List Int × List Int × List Int) => Lk (n + 1 + 4 * k) s.1 ∧ s.2.1.length = one.length ∧ s.2.2.length = other.length) ⟨t3, o1, m1⟩ ?_) ?_)
  · rintro k _ ⟨lf, ow, mo⟩ _ hk ⟨i1, i2, i3⟩
    dsimp only at i1 i2 i3 ⊢
    refine Ok.bind (pick_ok i1 (by omega) (by omega) (by omega)) ?_
    rintro ⟨a, c2⟩ ⟨a1, a2, a3⟩
    dsimp only at a1 a2 a3 ⊢
    refine Ok.bind (pick_ok a3 (by omega) (by omega) (by omega)) ?_
    rintro ⟨b, c3⟩ ⟨b1, b2, b3⟩
    dsimp only at b1 b2 b3 ⊢
    refine Ok.bind (pick_ok b3 (by omega) (by omega) (by omega)) ?_
    rintro ⟨d, c4⟩ ⟨d1, d2, d3⟩
    dsimp only at d1 d2 d3 ⊢
    refine ok_get d1 d2 fun st _ _ => ok_get a1 a2 fun x _ _ => ok_get b1 b2 fun y _ _ => Ok.bind (pick_ok d3 (by omega) (by omega) (by omega)) ?_
    rintro ⟨e, c5⟩ ⟨e1, e2, e3⟩
    dsimp only at e1 e2 e3 ⊢
    refine ok_get e1 e2 fun z _ _ => ?_
    obtain ⟨ys, y1, y2⟩ := setI_len (xs := ow) (i := a) (x := x + st) a1 a2
    obtain ⟨zs, z1, z2⟩ := setI_len (xs := mo) (i := b) (x := y - z) b1 b2
    exact Ok.of y1 (Ok.of z1 (Ok.mk ⟨e3.mono (by omega), y2.trans i2, z2.trans i3⟩))
  rintro ⟨lf, ow, mo⟩ ⟨i1, i2, i3⟩
  dsimp only at i1 i2 i3 ⊢
  refine Ok.bind (pick_ok i1 (by omega) (by omega) (by omega)) ?_
  rintro ⟨p, c6⟩ ⟨_, _, p3⟩
  dsimp only at p3 ⊢
  refine ok_cond (fun _ => ?_) fun _ => Ok.mk ⟨i2, i3, p3.mono (by omega)⟩
  have lM : (rng 0 (other.length : Int)).length = other.length := by rw [rng_len]; omega
  refine ok_len (by omega) (Ok.bind (ok_for (fun _ (s : List Int) => s.length = one.length) i2 ?_) ?_)
  · rintro q ⟨i, col⟩ r s e hs
    obtain ⟨e1, e2⟩ := enum_at e
    have hi : q.length < one.length := (List.getElem?_eq_some_iff.mp e2).1
    have hcol := h.g1 col (List.mem_of_getElem? e2)
    subst e1
    refine ok_get (by omega) (by omega) fun x _ _ => ok_rng (by omega) (by omega) (ok_len (by omega) ?_)
    have hall : ∀ j ∈ rng 0 (other.length : Int), Ok ((getI other j).bind fun t187 => (m_apart col t187).bind fun t189 => (getI (List.map (fun (v_number128 : Int) => min2 v_number128 price) mo) j).bind fun t191 => some (t189 - t191)) fun _ => True := fun j hj => by
      have hj2 := mem_rng.mp hj
      refine ok_get hj2.1 (by omega) fun y _ hy => Ok.of (apart_eq (by omega) hcol (h.g2 y hy)) (ok_get hj2.1 (by rw [List.length_map]; omega) fun _ _ _ => Ok.mk True.intro)
    refine Ok.bind (ok_mapO hall) fun o ho => ok_len (by rw [ho.1, lM]; show 2 + other.length ≤ _; omega) ?_
    obtain ⟨ys, y1, y2⟩ := setI_len (xs := s) (i := (q.length : Int)) (x := leastOf ([x, price] ++ o)) (by omega) (by omega)
    exact Ok.of (a := leastOf ([x, price] ++ o)) (min_leastOf (by simp)) (Ok.of y1 (Ok.mk (y2.trans hs)))
  · intro s hs
    exact Ok.mk ⟨hs, by show (List.map _ mo).length = _; rw [List.length_map]; exact i3, p3.mono (by omega)⟩
theorem drawn_ok {n : Nat} {c : List Int} (h : Two w one other price) (hl : Lk n c) (hn : n ≤ 700000) (o1 : paper.1.length = one.length) (m1 : paper.2.length = other.length) : Ok (m_law_drawn c one other price paper) fun r => r.1.1.length = one.length ∧ r.1.2.length = other.length ∧ Lk (n + 40) r.2 := by
  have l1 := h.l1
  have l2 := h.l2
  have hp := h.p
  unfold m_law_drawn
  refine Ok.bind (pick_ok hl (by omega) (by omega) (by omega)) ?_
  rintro ⟨t, c1⟩ ⟨_, _, t3⟩
  dsimp only at t3 ⊢
  refine ok_cond (fun _ => ok_len (by omega) (Ok.bind (ok_mapSN (fun k s => Lk (n + 1 + k) s) (fun _ : Int => True) (k := 0) t3 ?_) ?_)) fun _ => ?_
  · rintro k _ s _ hk hs
    refine Ok.bind (pick_ok hs (by omega) (by omega) (by omega)) ?_
    rintro ⟨u, c2⟩ ⟨_, _, u3⟩
    exact Ok.mk ⟨True.intro, u3⟩
  · rintro ⟨own, c2⟩ ⟨g1, _, g3⟩
    dsimp only at g1 g3 ⊢
    refine ok_len (by omega) (Ok.bind (ok_mapSN (fun k s => Lk (n + 6 + k) s) (fun _ : Int => True) (k := 0) (g3.mono (by omega)) ?_) ?_)
    · rintro k _ s _ hk hs
      refine Ok.bind (pick_ok hs (by omega) (by omega) (by omega)) ?_
      rintro ⟨u, c2⟩ ⟨_, _, u3⟩
      exact Ok.mk ⟨True.intro, u3⟩
    · rintro ⟨more, c3⟩ ⟨q1, _, q3⟩
      dsimp only at q1 q3 ⊢
      show Ok (tailM one other price c3 own more) _
      exact (tail_ok h (q3.mono (m := n + 11) (by omega)) (by omega) g1 q1).mono fun r hr => ⟨hr.1, hr.2.1, hr.2.2.mono (by omega)⟩
  · show Ok (tailM one other price c1 paper.1 paper.2) _
    exact (tail_ok h t3 (by omega) o1 m1).mono fun r hr => ⟨hr.1, hr.2.1, hr.2.2.mono (by omega)⟩
theorem keepsl_eq (h : Two w one other price) (h1 : paper.1.length = one.length) (h2 : paper.2.length = other.length) : m_law_keeps one other price paper = some (keeps one other price paper) := by
  have l1 := h.l1
  have l2 := h.l2
  have hw := h.wl
  have lM : (rng 0 (other.length : Int)).length = other.length := by rw [rng_len]; omega
  have hki := keeps_iff (one := one) (other := other) (price := price) (paper := paper) h1 h2
  have hno : ∀ b : Bool, (b = true ↔ Dual (Dm one other) price one.length other.length (fun i => paper.1[i]?.getD 0) fun j => paper.2[j]?.getD 0) → b = keeps one other price paper := fun b hb => Bool.eq_iff_iff.mpr (hb.trans hki.symm)
  refine Ok.eq ?_
  unfold m_law_keeps
  rw [lapart_eq]
  refine ok_len (by omega) (Ok.bind (max_is (l := paper.1 ++ paper.2) (fun e => by have := congrArg List.length e; rw [List.length_append] at this; have e2 : paper.1.length + paper.2.length = 0 := this; omega)) ?_)
  rintro mx ⟨x1, x2⟩
  refine ok_cond (fun z => Ok.mk ?_) fun z => ?_
  · have z1 := of_decide_eq_true z
    refine hno false ⟨(fun y => by cases y), fun hd => ?_⟩
    rcases List.mem_append.mp x1 with y | y
    · obtain ⟨i, hi⟩ := List.mem_iff_getElem?.mp y
      have := hd.le1 i (by have := (List.getElem?_eq_some_iff.mp hi).1; omega)
      try dsimp only at this
      rw [hi] at this
      have this2 : mx ≤ price := this
      omega
    · obtain ⟨i, hi⟩ := List.mem_iff_getElem?.mp y
      have := hd.le2 i (by have := (List.getElem?_eq_some_iff.mp hi).1; omega)
      try dsimp only at this
      rw [hi] at this
      have this2 : mx ≤ price := this
      omega
  · have z1 := of_decide_eq_false z
    have hle1 : ∀ i, i < one.length → paper.1[i]?.getD 0 ≤ price := fun i hi => by
      rw [List.getElem?_eq_getElem (by omega)]
      have := x2 _ (List.mem_append_left _ (List.getElem_mem (l := paper.1) (n := i) (by omega)))
      show paper.1[i] ≤ price
      omega
    have hle2 : ∀ i, i < other.length → paper.2[i]?.getD 0 ≤ price := fun i hi => by
      rw [List.getElem?_eq_getElem (by omega)]
      have := x2 _ (List.mem_append_right _ (List.getElem_mem (l := paper.2) (n := i) (by omega)))
      show paper.2[i] ≤ price
      omega
    have hat : ∀ (i : Int) (c : Col), (i, c) ∈ enumI one → ∃ k : Nat, i = (k : Int) ∧ k < one.length ∧ one[k]? = some c := fun i c hm => by
      have := mem_enumI hm
      try dsimp only at this
      exact ⟨i.toNat, by omega, (List.getElem?_eq_some_iff.mp this.2).1, this.2⟩
    refine Ok.of (forC_find (t := fun x : Int × Col => (rng 0 (other.length : Int)).any fun j => decide (Dm one other x.1.toNat j.toNat < paper.1[x.1.toNat]?.getD 0 + paper.2[j.toNat]?.getD 0)) (r := fun _ => false) fun x hx => ?_) ?_
    · obtain ⟨i, c⟩ := x
      obtain ⟨k, rfl, hk, hc⟩ := hat i c hx
      have hck : one[k] = c := by rw [List.getElem?_eq_getElem hk] at hc; exact Option.some.inj hc
      refine Ok.eq (ok_rng (by omega) (by omega) (ok_len (by omega) (Ok.of (mapO_of (g := fun j => decide (Dm one other k j.toNat < paper.1[k]?.getD 0 + paper.2[j.toNat]?.getD 0)) fun j hj => ?_) ?_)))
      · have hj2 := mem_rng.mp hj
        have hj3 : j.toNat < other.length := by omega
        refine Ok.eq (Ok.of (a := paper.1[k]?.getD 0) (getI_nat (by omega) (by rw [Int.toNat_natCast, List.getElem?_eq_getElem (by omega)]; rfl)) (Ok.of (a := paper.2[j.toNat]?.getD 0) (getI_nat hj2.1 (by rw [List.getElem?_eq_getElem (by omega)]; rfl)) (Ok.of (getI_nat hj2.1 (List.getElem?_eq_getElem hj3)) (Ok.of (a := Dm one other k j.toNat) ?_ (Ok.mk rfl)))))
        rw [Dm_eq hk hj3, hck]
        exact apart_eq (by omega) (by rw [← hck]; exact h.g1 _ (List.getElem_mem hk)) (h.g2 _ (List.getElem_mem hj3))
      · rw [List.any_map]
        show Ok (cond ((rng 0 (other.length : Int)).any fun j => decide (Dm one other k j.toNat < paper.1[k]?.getD 0 + paper.2[j.toNat]?.getD 0)) _ _) fun a => a = cond ((rng 0 (other.length : Int)).any fun j => decide (Dm one other ((k : Nat) : Int).toNat j.toNat < paper.1[((k : Nat) : Int).toNat]?.getD 0 + paper.2[j.toNat]?.getD 0)) _ _
        rw [Int.toNat_natCast]
        cases ((rng 0 (other.length : Int)).any fun j => decide (Dm one other k j.toNat < paper.1[k]?.getD 0 + paper.2[j.toNat]?.getD 0)) with
        | true => exact Ok.mk rfl
        | false => exact Ok.mk rfl
    · cases e3 : (enumI one).find? (fun x : Int × Col => (rng 0 (other.length : Int)).any fun j => decide (Dm one other x.1.toNat j.toNat < paper.1[x.1.toNat]?.getD 0 + paper.2[j.toNat]?.getD 0)) with
      | none =>
        refine Ok.mk (hno true ⟨fun _ => ⟨hle1, hle2, fun i hi j hj => ?_⟩, fun _ => rfl⟩)
        have hm : ((i : Int), one[i]) ∈ enumI one := by
          rw [enumI_eq ([] : Col)]
          exact List.mem_map.mpr ⟨(i : Int), mem_rng.mpr ⟨by omega, by omega⟩, by rw [Int.toNat_natCast, List.getElem?_eq_getElem hi]; rfl⟩
        have g1 := List.find?_eq_none.mp e3 _ hm
        rw [List.any_eq_true] at g1
        refine Int.not_lt.mp fun hlt => g1 ⟨(j : Int), mem_rng.mpr ⟨by omega, by omega⟩, decide_eq_true ?_⟩
        try dsimp only
        rw [Int.toNat_natCast, Int.toNat_natCast]
        exact hlt
      | some x =>
        refine Ok.mk (hno false ⟨(fun y => by cases y), fun hd => ?_⟩)
        obtain ⟨i, c⟩ := x
        obtain ⟨k, rfl, hk, _⟩ := hat i c (List.mem_of_find?_eq_some e3)
        have g1 := List.find?_some e3
        rw [List.any_eq_true] at g1
        obtain ⟨j, hj, hlt⟩ := g1
        have hj2 := mem_rng.mp hj
        have g2 := of_decide_eq_true hlt
        try dsimp only at g2
        rw [Int.toNat_natCast] at g2
        have g3 := hd.d k hk j.toNat (by omega)
        try dsimp only at g3
        omega
theorem right_eq (h : Two w one other price) (h1 : paper.1.length = one.length) (h2 : paper.2.length = other.length) {lists : List Pairs} (hL : ∀ L ∈ lists, Val one.length other.length L) : m_law_right one other price paper lists (V price other.length (sqsOf one other) 0) = some true := by
  obtain ⟨t1, t2, t3, _⟩ := topV one other price
  refine Ok.eq ?_
  unfold m_law_right
  refine Ok.of (keepsl_eq h h1 h2) (Ok.of (a := paper.1.sum + paper.2.sum) rfl (ok_cond (fun z => ?_) fun _ => Ok.of (ok_forC0 fun L hm => ?_) (Ok.mk rfl)))
  · exfalso
    rw [Bool.and_eq_true] at z
    have g1 := paper_weak h1 h2 z.1 t1
    have g2 := of_decide_eq_true z.2
    omega
  · have hv := hL L hm
    refine Ok.eq (Ok.of (lcost_eq h hv) (Ok.of (shows_eq h hv h1 h2) (ok_cond (fun z => ?_) fun _ => Ok.mk rfl)))
    exfalso
    have he : decide (paper.1.sum + paper.2.sum = cst (Dm one other) price one.length other.length L) = decide (cst (Dm one other) price one.length other.length L = paper.1.sum + paper.2.sum) := decide_eq_decide.mpr eq_comm
    rw [he] at z
    rw [Bool.or_eq_true, Bool.or_eq_true] at z
    rcases z with z | z | z
    · cases z
    · simp at z
    · rw [Bool.and_eq_true, Bool.and_eq_true] at z
      have g1 := paper_weak h1 h2 z.1.1 t1
      have g2 := of_decide_eq_true z.1.2
      have g3 := t3 L hv
      have g4 : cst (Dm one other) price one.length other.length L = V price other.length (sqsOf one other) 0 := by omega
      rw [decide_eq_true g4] at z
      exact absurd z.2 (by decide)
theorem Two.swap (h : Two w one other price) : Two w other one price := ⟨h.g2, h.g1, h.l2, h.l1, h.wl, h.p⟩
def swp (L : Pairs) : Pairs := srt (ltP ltI ltI) (L.map fun x => (x.2, x.1))
theorem swp_perm (L : Pairs) : (swp L).Perm (L.map fun x => (x.2, x.1)) := srt_perm _
theorem swp_val (hv : Val one.length other.length L) : Val other.length one.length (swp L) := by
  have hp := swp_perm L
  have n1 : ((swp L).map Prod.fst).Nodup := ((hp.map Prod.fst).nodup_iff).mpr (by
    rw [List.map_map]
    exact List.pairwise_map.mpr (hv.pw.imp fun h => h.2))
  have n2 : ((swp L).map Prod.snd).Nodup := ((hp.map Prod.snd).nodup_iff).mpr (by
    rw [List.map_map]
    exact List.pairwise_map.mpr (hv.pw.imp fun h e => by
      have := h.1
      have e2 : _ = _ := e
      dsimp only [Function.comp] at e2
      omega))
  have w := srt_pw (lt := ltP ltI ltI) (L.map fun x => (x.2, x.1))
  have a1 := List.pairwise_map.mp n1
  have a2 := List.pairwise_map.mp n2
  refine ⟨((w.and a1).and a2).imp fun h => ?_, fun x hx => ?_⟩
  · obtain ⟨⟨b1, b2⟩, b3⟩ := h
    refine ⟨?_, b3⟩
    unfold ltP at b1
    rw [if_neg fun z => b2 z.symm] at b1
    have := of_decide_eq_false b1
    have b4 : _ ≠ _ := b2
    omega
  · obtain ⟨y, hy, rfl⟩ := List.mem_map.mp (hp.mem_iff.mp hx)
    have := hv.rg y hy
    exact ⟨this.2, this.1⟩
theorem swp_cost (hv : Val one.length other.length L) : cst (Dm other one) price other.length one.length (swp L) = cst (Dm one other) price one.length other.length L := by
  have hp := swp_perm L
  have e1 : ((swp L).map fun x => Dm other one x.1.toNat x.2.toNat).sum = (L.map fun x => Dm one other x.1.toNat x.2.toNat).sum := by
    rw [perm_sum (hp.map fun x => Dm other one x.1.toNat x.2.toNat), List.map_map]
    congr 1
    refine List.map_congr_left fun x hx => ?_
    have hr := hv.rg x hx
    show Dm other one x.2.toNat x.1.toNat = _
    rw [Dm_eq (by omega) (by omega), Dm_eq (by omega) (by omega), ap_comm]
  have e2 : (swp L).length = L.length := by
    have := hp.length_eq
    rw [List.length_map] at this
    exact this
  unfold cst
  rw [e1, e2]
  congr 2
  omega
theorem swap_keeps (hP : Paper one other price paper) : keeps other one price (paper.2, paper.1) = true := by
  refine (keeps_iff (paper := (paper.2, paper.1)) hP.l2 hP.l1).mpr ⟨hP.dual.le2, hP.dual.le1, fun j hj i hi => ?_⟩
  have := hP.dual.d i hi j hj
  rw [Dm_eq hi hj, ap_comm] at this
  rw [Dm_eq hj hi]
  show paper.2[j]?.getD 0 + paper.1[i]?.getD 0 ≤ _
  omega
theorem stp_mem {α : Type} {xs : List α} {lo hi : Option Int} {k : Int} (hk : k ≠ 0) : ∃ ys, stpI xs lo hi k = some ys ∧ ∀ y ∈ ys, y ∈ xs := by
  refine ⟨_, by unfold stpI; rw [if_neg hk], fun y hy => ?_⟩
  obtain ⟨i, _, h⟩ := List.mem_filterMap.mp hy
  exact List.mem_of_getElem? h
end
theorem law_plain (ns : List Int) (hl : ns.length ≤ 63) : m_law ns = some true := by
  refine Ok.eq ?_
  unfold m_law
  have hm : 0 ≤ max2 (1 : Int) (min2 (ns.length : Int) (2 : Int)) ∧ max2 (1 : Int) (min2 (ns.length : Int) (2 : Int)) ≤ 3 := by
    unfold max2 min2
    split <;> split <;> omega
  refine ok_rng (by omega) (by omega) (Ok.of (ok_forC0 fun k hk => ?_) (Ok.mk rfl))
  have hk2 := mem_rng.mp hk
  refine Ok.eq (Ok.bind (left_ok (ns := ns) (k := k) (by omega)) ?_)
  rintro l ⟨a, b, rfl⟩
  have l0 : Lk 0 [a, b, 0] := ⟨_, _, _, rfl, by omega, by omega⟩
  refine Ok.bind (two_ok l0 (by omega) (most := 4) (by omega)) ?_
  rintro ⟨⟨one, other⟩, lf2⟩ ⟨w, hw, g1, g2, n1, n2, l2⟩
  dsimp only at g1 g2 n1 n2 l2 ⊢
  refine Ok.bind (price_ok hw g1 g2 n1 n2 l2 (by omega)) ?_
  rintro ⟨pr, lf3⟩ ⟨p1, l3⟩
  dsimp only at p1 l3 ⊢
  have h : Two w one other pr := ⟨g1, g2, n1, n2, hw, p1.1, by omega⟩
  obtain ⟨t1, t2, t3, _⟩ := topV one other pr
  refine Ok.bind (all_ok n1.2 n2.2) ?_
  rintro P ⟨hP, hPl⟩
  refine ok_len (by omega) (Ok.of (mapO_of (g := fun L => cst (Dm one other) pr one.length other.length L) fun L hL => Ok.eq (Ok.of (lcost_eq h ((hP L).mp hL)) (Ok.mk rfl))) (Ok.of (a := V pr other.length (sqsOf one other) 0) ?_ ?_))
  · refine minI_of (List.mem_map.mpr ⟨_, (hP _).mpr t1, t2⟩) fun x hx => ?_
    obtain ⟨L, hL, rfl⟩ := List.mem_map.mp hx
    exact t3 L ((hP L).mp hL)
  refine Ok.bind (paper_ok h) fun paper hpp => Ok.bind (P := fun b => b = false) (ok_cond (fun z => ?_) fun _ => Ok.of (right_eq h hpp.l1 hpp.l2 fun L hL => (hP L).mp hL) (Ok.mk rfl)) ?_
  · rw [hpp.sum] at z
    simp at z
  rintro b rfl
  have hfl := vlen t1
  refine ok_cond (fun z => by cases z) fun _ => Ok.of (least_eq h) (ok_len (by dsimp only; omega) (Ok.of rfl (Ok.of (a := true) ?_ ?_)))
  · have hs := shows_eq (paper := (paper.2, paper.1)) h.swap (swp_val t1) hpp.l2 hpp.l1
    rw [swap_keeps hpp, swp_cost t1, t2] at hs
    have hsum : paper.2.sum + paper.1.sum = V pr other.length (sqsOf one other) 0 := by
      have := hpp.sum
      omega
    dsimp only at hs
    rw [decide_eq_true hsum] at hs
    exact hs
  refine ok_cond (fun z => by cases z) fun _ => ok_rng (by omega) (by omega) (Ok.bind (ok_forC (fun q (s : List Int) => Lk (1000 + 40 * q.length) s) (l3.mono (by omega)) ?_) ?_)
  · rintro q turn r s e hs
    have l20 : (rng 0 20).length = 20 := by rw [rng_len]; rfl
    have hq : q.length < 20 := by
      have h1 := congrArg List.length e
      rw [l20, List.length_append, List.length_cons] at h1
      omega
    refine Ok.bind (drawn_ok h hs (by omega) hpp.l1 hpp.l2) ?_
    rintro ⟨drawn, c⟩ ⟨d1, d2, d3⟩
    dsimp only at d1 d2 d3 ⊢
    refine ok_mod (by omega) fun _ _ => ?_
    obtain ⟨ys, y1, y2⟩ := stp_mem (xs := P) (lo := some (turn % 3)) (hi := none) (k := 3) (by decide)
    refine Ok.of y1 (Ok.of (right_eq h d1 d2 fun L hL => (hP L).mp (y2 L hL)) (ok_cond (fun z => by cases z) fun _ => Ok.mk ⟨_, rfl, ?_⟩))
    rw [List.length_append]
    exact d3
  · rintro _ ⟨s, rfl, _⟩
    exact Ok.mk rfl
end K92
set_option maxHeartbeats 2000000
namespace K92
open PySem PySem.Spec PyProof.Rows L2 Evl FC
theorem all_mk {l : PySem.W.OpenLaw} {w : World} {K : PySem.W.Frag} {h : Heap} {mg : Str → Option Value} {fa f1 f2 f3 f4 f5 f6 f7 f8 f9 f10 f11 f12 f13 f14 f15 f16 f17 f18 f19 f20 f21 f22 f23 f24 f25 f26 f27 f28 f29 f30 f31 f32 f33 C_Costs : Addr} (X : K.In h) (G : h.Ns mainGlobals mg) (hfa : mg "law" = some (.ref fa))
    {od1 an1 od2 an2 od3 an3 od4 an4 od5 an5 od6 an6 od7 an7 od8 an8 od9 an9 od10 an10 od11 an11 od12 an12 od13 an13 od14 an14 od15 an15 od16 an16 od17 an17 od18 an18 od19 an19 od20 an20 od21 an21 od22 an22 od23 an23 od24 an24 od25 an25 od26 an26 od27 an27 od28 an28 od29 an29 od30 an30 od31 an31 od32 an32 od33 an33 : Option Addr} {sl1 sl2 sl3 sl4 sl5 sl6 sl7 sl8 sl9 sl10 sl11 sl12 sl13 sl14 sl15 sl16 sl17 sl18 sl19 sl20 sl21 sl22 sl23 sl24 sl25 sl26 sl27 sl28 sl29 sl30 sl31 sl32 sl33 : Array (Option Value)} {oc1 kV1 dc1 pm1 cd1 ct1 oc2 kV2 dc2 pm2 cd2 ct2 oc3 kV3 dc3 pm3 cd3 ct3 oc4 kV4 dc4 pm4 cd4 ct4 oc5 kV5 dc5 pm5 cd5 ct5 oc6 kV6 dc6 pm6 cd6 ct6 oc7 kV7 dc7 pm7 cd7 ct7 oc8 kV8 dc8 pm8 cd8 ct8 oc9 kV9 dc9 pm9 cd9 ct9 oc10 kV10 dc10 pm10 cd10 ct10 oc11 kV11 dc11 pm11 cd11 ct11 oc12 kV12 dc12 pm12 cd12 ct12 oc13 kV13 dc13 pm13 cd13 ct13 oc14 kV14 dc14 pm14 cd14 ct14 oc15 kV15 dc15 pm15 cd15 ct15 oc16 kV16 dc16 pm16 cd16 ct16 oc17 kV17 dc17 pm17 cd17 ct17 oc18 kV18 dc18 pm18 cd18 ct18 oc19 kV19 dc19 pm19 cd19 ct19 oc20 kV20 dc20 pm20 cd20 ct20 oc21 kV21 dc21 pm21 cd21 ct21 oc22 kV22 dc22 pm22 cd22 ct22 oc23 kV23 dc23 pm23 cd23 ct23 oc24 kV24 dc24 pm24 cd24 ct24 oc25 kV25 dc25 pm25 cd25 ct25 oc26 kV26 dc26 pm26 cd26 ct26 oc27 kV27 dc27 pm27 cd27 ct27 oc28 kV28 dc28 pm28 cd28 ct28 oc29 kV29 dc29 pm29 cd29 ct29 oc30 kV30 dc30 pm30 cd30 ct30 oc31 kV31 dc31 pm31 cd31 ct31 oc32 kV32 dc32 pm32 cd32 ct32 oc33 kV33 dc33 pm33 cd33 ct33 : Value}
    (aC_Costs : PySem.W.nsIn K mainGlobals "Costs" = some (some (.ref C_Costs)))
    (pg_Costs : PySem.W.plainGet K C_Costs Str.empty = true)
    (hd_Costs : PySem.W.hasDictIn K C_Costs = true)
    (po_Costs : PySem.W.plainOver K C_Costs = true)
    (sa_Costs : PySem.W.findIn K (.ref C_Costs) "__setattr__" = some (some (.builtin "object.__setattr__")))
    (mk_Costs : PySem.W.makesIn K C_Costs = true)
    (kc_Costs : PySem.W.keepIn K (.ref C_Costs) = true)
    (na_Costs_least : PySem.W.findIn K (.ref C_Costs) "least" = some none)
    (na_Costs_many : PySem.W.findIn K (.ref C_Costs) "many" = some none)
    (na_Costs_others : PySem.W.findIn K (.ref C_Costs) "others" = some none)
    (na_Costs_price : PySem.W.findIn K (.ref C_Costs) "price" = some none)
    (na_Costs_squares : PySem.W.findIn K (.ref C_Costs) "squares" = some none)
    (a1 : PySem.W.nsIn K mainGlobals "apart" = some (some (.ref f1)))
    (l1 : K.lookup f1 = some ⟨oc1, od1, .func (PySem.W.fnOf "apart" "apart" (defArgs sm_apart) (defBody sm_apart) (defScope sm_apart) .none kV1 dc1 pm1 an1 cd1 ct1), sl1⟩)
    (c1 : PySem.W.codeIn K cd1 "apart" = true)
    (k1 : PySem.W.keepIn K (.ref f1) = true)
    (a2 : PySem.W.nsIn K mainGlobals "cost_of" = some (some (.ref f2)))
    (l2 : K.lookup f2 = some ⟨oc2, od2, .func (PySem.W.fnOf "cost_of" "cost_of" (defArgs sm_cost_of) (defBody sm_cost_of) (defScope sm_cost_of) .none kV2 dc2 pm2 an2 cd2 ct2), sl2⟩)
    (c2 : PySem.W.codeIn K cd2 "cost_of" = true)
    (k2 : PySem.W.keepIn K (.ref f2) = true)
    (a3 : PySem.W.nsIn K mainGlobals "ones_in" = some (some (.ref f3)))
    (l3 : K.lookup f3 = some ⟨oc3, od3, .func (PySem.W.fnOf "ones_in" "ones_in" (defArgs sm_ones_in) (defBody sm_ones_in) (defScope sm_ones_in) .none kV3 dc3 pm3 an3 cd3 ct3), sl3⟩)
    (c3 : PySem.W.codeIn K cd3 "ones_in" = true)
    (k3 : PySem.W.keepIn K (.ref f3) = true)
    (a4 : PySem.W.findIn K (.ref C_Costs) "free" = some (some (.ref f4)))
    (i4 : PySem.W.isFn K (.ref f4) = true)
    (l4 : K.lookup f4 = some ⟨oc4, od4, .func (PySem.W.fnOf "free" "Costs.free" (defArgs sm_Costs_free) (defBody sm_Costs_free) (defScope sm_Costs_free) .none kV4 dc4 pm4 an4 cd4 ct4), sl4⟩)
    (c4 : PySem.W.codeIn K cd4 "Costs.free" = true)
    (k4 : PySem.W.keepIn K (.ref f4) = true)
    (a5 : PySem.W.findIn K (.ref C_Costs) "from_here" = some (some (.ref f5)))
    (i5 : PySem.W.isFn K (.ref f5) = true)
    (l5 : K.lookup f5 = some ⟨oc5, od5, .func (PySem.W.fnOf "from_here" "Costs.from_here" (defArgs sm_Costs_from_here) (defBody sm_Costs_from_here) (defScope sm_Costs_from_here) .none kV5 dc5 pm5 an5 cd5 ct5), sl5⟩)
    (c5 : PySem.W.codeIn K cd5 "Costs.from_here" = true)
    (k5 : PySem.W.keepIn K (.ref f5) = true)
    (a6 : PySem.W.findIn K (.ref C_Costs) "__init__" = some (some (.ref f6)))
    (i6 : PySem.W.isFn K (.ref f6) = true)
    (l6 : K.lookup f6 = some ⟨oc6, od6, .func (PySem.W.fnOf "__init__" "Costs.__init__" (defArgs sm_Costs_init) (defBody sm_Costs_init) (defScope sm_Costs_init) .none kV6 dc6 pm6 an6 cd6 ct6), sl6⟩)
    (c6 : PySem.W.codeIn K cd6 "Costs.__init__" = true)
    (k6 : PySem.W.keepIn K (.ref f6) = true)
    (a7 : PySem.W.findIn K (.ref C_Costs) "rest" = some (some (.ref f7)))
    (i7 : PySem.W.isFn K (.ref f7) = true)
    (l7 : K.lookup f7 = some ⟨oc7, od7, .func (PySem.W.fnOf "rest" "Costs.rest" (defArgs sm_Costs_rest) (defBody sm_Costs_rest) (defScope sm_Costs_rest) .none kV7 dc7 pm7 an7 cd7 ct7), sl7⟩)
    (c7 : PySem.W.codeIn K cd7 "Costs.rest" = true)
    (k7 : PySem.W.keepIn K (.ref f7) = true)
    (a8 : PySem.W.findIn K (.ref C_Costs) "partner" = some (some (.ref f8)))
    (i8 : PySem.W.isFn K (.ref f8) = true)
    (l8 : K.lookup f8 = some ⟨oc8, od8, .func (PySem.W.fnOf "partner" "Costs.partner" (defArgs sm_Costs_partner) (defBody sm_Costs_partner) (defScope sm_Costs_partner) .none kV8 dc8 pm8 an8 cd8 ct8), sl8⟩)
    (c8 : PySem.W.codeIn K cd8 "Costs.partner" = true)
    (k8 : PySem.W.keepIn K (.ref f8) = true)
    (a9 : PySem.W.findIn K (.ref C_Costs) "first_pairs" = some (some (.ref f9)))
    (i9 : PySem.W.isFn K (.ref f9) = true)
    (l9 : K.lookup f9 = some ⟨oc9, od9, .func (PySem.W.fnOf "first_pairs" "Costs.first_pairs" (defArgs sm_Costs_first_pairs) (defBody sm_Costs_first_pairs) (defScope sm_Costs_first_pairs) .none kV9 dc9 pm9 an9 cd9 ct9), sl9⟩)
    (c9 : PySem.W.codeIn K cd9 "Costs.first_pairs" = true)
    (k9 : PySem.W.keepIn K (.ref f9) = true)
    (a10 : PySem.W.nsIn K mainGlobals "least_change" = some (some (.ref f10)))
    (l10 : K.lookup f10 = some ⟨oc10, od10, .func (PySem.W.fnOf "least_change" "least_change" (defArgs sm_least_change) (defBody sm_least_change) (defScope sm_least_change) .none kV10 dc10 pm10 an10 cd10 ct10), sl10⟩)
    (c10 : PySem.W.codeIn K cd10 "least_change" = true)
    (k10 : PySem.W.keepIn K (.ref f10) = true)
    (a11 : PySem.W.nsIn K mainGlobals "bounds_between" = some (some (.ref f11)))
    (l11 : K.lookup f11 = some ⟨oc11, od11, .func (PySem.W.fnOf "bounds_between" "bounds_between" (defArgs sm_bounds_between) (defBody sm_bounds_between) (defScope sm_bounds_between) .none kV11 dc11 pm11 an11 cd11 ct11), sl11⟩)
    (c11 : PySem.W.codeIn K cd11 "bounds_between" = true)
    (k11 : PySem.W.keepIn K (.ref f11) = true)
    (a12 : PySem.W.nsIn K mainGlobals "numbers_within" = some (some (.ref f12)))
    (l12 : K.lookup f12 = some ⟨oc12, od12, .func (PySem.W.fnOf "numbers_within" "numbers_within" (defArgs sm_numbers_within) (defBody sm_numbers_within) (defScope sm_numbers_within) .none kV12 dc12 pm12 an12 cd12 ct12), sl12⟩)
    (c12 : PySem.W.codeIn K cd12 "numbers_within" = true)
    (k12 : PySem.W.keepIn K (.ref f12) = true)
    (a13 : PySem.W.nsIn K mainGlobals "change_paper" = some (some (.ref f13)))
    (l13 : K.lookup f13 = some ⟨oc13, od13, .func (PySem.W.fnOf "change_paper" "change_paper" (defArgs sm_change_paper) (defBody sm_change_paper) (defScope sm_change_paper) .none kV13 dc13 pm13 an13 cd13 ct13), sl13⟩)
    (c13 : PySem.W.codeIn K cd13 "change_paper" = true)
    (k13 : PySem.W.keepIn K (.ref f13) = true)
    (a14 : PySem.W.nsIn K mainGlobals "is_whole" = some (some (.ref f14)))
    (l14 : K.lookup f14 = some ⟨oc14, od14, .func (PySem.W.fnOf "is_whole" "is_whole" (defArgs sm_is_whole) (defBody sm_is_whole) (defScope sm_is_whole) .none kV14 dc14 pm14 an14 cd14 ct14), sl14⟩)
    (c14 : PySem.W.codeIn K cd14 "is_whole" = true)
    (k14 : PySem.W.keepIn K (.ref f14) = true)
    (a15 : PySem.W.nsIn K mainGlobals "is_pair_within" = some (some (.ref f15)))
    (l15 : K.lookup f15 = some ⟨oc15, od15, .func (PySem.W.fnOf "is_pair_within" "is_pair_within" (defArgs sm_is_pair_within) (defBody sm_is_pair_within) (defScope sm_is_pair_within) .none kV15 dc15 pm15 an15 cd15 ct15), sl15⟩)
    (c15 : PySem.W.codeIn K cd15 "is_pair_within" = true)
    (k15 : PySem.W.keepIn K (.ref f15) = true)
    (a16 : PySem.W.nsIn K mainGlobals "are_pairs" = some (some (.ref f16)))
    (l16 : K.lookup f16 = some ⟨oc16, od16, .func (PySem.W.fnOf "are_pairs" "are_pairs" (defArgs sm_are_pairs) (defBody sm_are_pairs) (defScope sm_are_pairs) .none kV16 dc16 pm16 an16 cd16 ct16), sl16⟩)
    (c16 : PySem.W.codeIn K cd16 "are_pairs" = true)
    (k16 : PySem.W.keepIn K (.ref f16) = true)
    (a17 : PySem.W.nsIn K mainGlobals "are_prices" = some (some (.ref f17)))
    (l17 : K.lookup f17 = some ⟨oc17, od17, .func (PySem.W.fnOf "are_prices" "are_prices" (defArgs sm_are_prices) (defBody sm_are_prices) (defScope sm_are_prices) .none kV17 dc17 pm17 an17 cd17 ct17), sl17⟩)
    (c17 : PySem.W.codeIn K cd17 "are_prices" = true)
    (k17 : PySem.W.keepIn K (.ref f17) = true)
    (a18 : PySem.W.nsIn K mainGlobals "shows_change" = some (some (.ref f18)))
    (l18 : K.lookup f18 = some ⟨oc18, od18, .func (PySem.W.fnOf "shows_change" "shows_change" (defArgs sm_shows_change) (defBody sm_shows_change) (defScope sm_shows_change) .none kV18 dc18 pm18 an18 cd18 ct18), sl18⟩)
    (c18 : PySem.W.codeIn K cd18 "shows_change" = true)
    (k18 : PySem.W.keepIn K (.ref f18) = true)
    (a19 : PySem.W.nsIn K mainGlobals "_law_mix" = some (some (.ref f19)))
    (l19 : K.lookup f19 = some ⟨oc19, od19, .func (PySem.W.fnOf "_law_mix" "_law_mix" (defArgs sm_law_mix) (defBody sm_law_mix) (defScope sm_law_mix) .none kV19 dc19 pm19 an19 cd19 ct19), sl19⟩)
    (c19 : PySem.W.codeIn K cd19 "_law_mix" = true)
    (k19 : PySem.W.keepIn K (.ref f19) = true)
    (a20 : PySem.W.nsIn K mainGlobals "_law_left" = some (some (.ref f20)))
    (l20 : K.lookup f20 = some ⟨oc20, od20, .func (PySem.W.fnOf "_law_left" "_law_left" (defArgs sm_law_left) (defBody sm_law_left) (defScope sm_law_left) .none kV20 dc20 pm20 an20 cd20 ct20), sl20⟩)
    (c20 : PySem.W.codeIn K cd20 "_law_left" = true)
    (k20 : PySem.W.keepIn K (.ref f20) = true)
    (a21 : PySem.W.nsIn K mainGlobals "_law_pick" = some (some (.ref f21)))
    (l21 : K.lookup f21 = some ⟨oc21, od21, .func (PySem.W.fnOf "_law_pick" "_law_pick" (defArgs sm_law_pick) (defBody sm_law_pick) (defScope sm_law_pick) .none kV21 dc21 pm21 an21 cd21 ct21), sl21⟩)
    (c21 : PySem.W.codeIn K cd21 "_law_pick" = true)
    (k21 : PySem.W.keepIn K (.ref f21) = true)
    (a22 : PySem.W.nsIn K mainGlobals "_law_kind" = some (some (.ref f22)))
    (l22 : K.lookup f22 = some ⟨oc22, od22, .func (PySem.W.fnOf "_law_kind" "_law_kind" (defArgs sm_law_kind) (defBody sm_law_kind) (defScope sm_law_kind) .none kV22 dc22 pm22 an22 cd22 ct22), sl22⟩)
    (c22 : PySem.W.codeIn K cd22 "_law_kind" = true)
    (k22 : PySem.W.keepIn K (.ref f22) = true)
    (a23 : PySem.W.nsIn K mainGlobals "_law_colour" = some (some (.ref f23)))
    (l23 : K.lookup f23 = some ⟨oc23, od23, .func (PySem.W.fnOf "_law_colour" "_law_colour" (defArgs sm_law_colour) (defBody sm_law_colour) (defScope sm_law_colour) .none kV23 dc23 pm23 an23 cd23 ct23), sl23⟩)
    (c23 : PySem.W.codeIn K cd23 "_law_colour" = true)
    (k23 : PySem.W.keepIn K (.ref f23) = true)
    (a24 : PySem.W.nsIn K mainGlobals "_law_apart" = some (some (.ref f24)))
    (l24 : K.lookup f24 = some ⟨oc24, od24, .func (PySem.W.fnOf "_law_apart" "_law_apart" (defArgs sm_law_apart) (defBody sm_law_apart) (defScope sm_law_apart) .none kV24 dc24 pm24 an24 cd24 ct24), sl24⟩)
    (c24 : PySem.W.codeIn K cd24 "_law_apart" = true)
    (k24 : PySem.W.keepIn K (.ref f24) = true)
    (a25 : PySem.W.nsIn K mainGlobals "_law_few" = some (some (.ref f25)))
    (l25 : K.lookup f25 = some ⟨oc25, od25, .func (PySem.W.fnOf "_law_few" "_law_few" (defArgs sm_law_few) (defBody sm_law_few) (defScope sm_law_few) .none kV25 dc25 pm25 an25 cd25 ct25), sl25⟩)
    (c25 : PySem.W.codeIn K cd25 "_law_few" = true)
    (k25 : PySem.W.keepIn K (.ref f25) = true)
    (a26 : PySem.W.nsIn K mainGlobals "_law_two" = some (some (.ref f26)))
    (l26 : K.lookup f26 = some ⟨oc26, od26, .func (PySem.W.fnOf "_law_two" "_law_two" (defArgs sm_law_two) (defBody sm_law_two) (defScope sm_law_two) .none kV26 dc26 pm26 an26 cd26 ct26), sl26⟩)
    (c26 : PySem.W.codeIn K cd26 "_law_two" = true)
    (k26 : PySem.W.keepIn K (.ref f26) = true)
    (a27 : PySem.W.nsIn K mainGlobals "_law_price" = some (some (.ref f27)))
    (l27 : K.lookup f27 = some ⟨oc27, od27, .func (PySem.W.fnOf "_law_price" "_law_price" (defArgs sm_law_price) (defBody sm_law_price) (defScope sm_law_price) .none kV27 dc27 pm27 an27 cd27 ct27), sl27⟩)
    (c27 : PySem.W.codeIn K cd27 "_law_price" = true)
    (k27 : PySem.W.keepIn K (.ref f27) = true)
    (a28 : PySem.W.nsIn K mainGlobals "_law_cost" = some (some (.ref f28)))
    (l28 : K.lookup f28 = some ⟨oc28, od28, .func (PySem.W.fnOf "_law_cost" "_law_cost" (defArgs sm_law_cost) (defBody sm_law_cost) (defScope sm_law_cost) .none kV28 dc28 pm28 an28 cd28 ct28), sl28⟩)
    (c28 : PySem.W.codeIn K cd28 "_law_cost" = true)
    (k28 : PySem.W.keepIn K (.ref f28) = true)
    (a29 : PySem.W.nsIn K mainGlobals "_law_all_pairs" = some (some (.ref f29)))
    (l29 : K.lookup f29 = some ⟨oc29, od29, .func (PySem.W.fnOf "_law_all_pairs" "_law_all_pairs" (defArgs sm_law_all_pairs) (defBody sm_law_all_pairs) (defScope sm_law_all_pairs) .none kV29 dc29 pm29 an29 cd29 ct29), sl29⟩)
    (c29 : PySem.W.codeIn K cd29 "_law_all_pairs" = true)
    (k29 : PySem.W.keepIn K (.ref f29) = true)
    (a30 : PySem.W.nsIn K mainGlobals "_law_drawn" = some (some (.ref f30)))
    (l30 : K.lookup f30 = some ⟨oc30, od30, .func (PySem.W.fnOf "_law_drawn" "_law_drawn" (defArgs sm_law_drawn) (defBody sm_law_drawn) (defScope sm_law_drawn) .none kV30 dc30 pm30 an30 cd30 ct30), sl30⟩)
    (c30 : PySem.W.codeIn K cd30 "_law_drawn" = true)
    (k30 : PySem.W.keepIn K (.ref f30) = true)
    (a31 : PySem.W.nsIn K mainGlobals "_law_keeps" = some (some (.ref f31)))
    (l31 : K.lookup f31 = some ⟨oc31, od31, .func (PySem.W.fnOf "_law_keeps" "_law_keeps" (defArgs sm_law_keeps) (defBody sm_law_keeps) (defScope sm_law_keeps) .none kV31 dc31 pm31 an31 cd31 ct31), sl31⟩)
    (c31 : PySem.W.codeIn K cd31 "_law_keeps" = true)
    (k31 : PySem.W.keepIn K (.ref f31) = true)
    (a32 : PySem.W.nsIn K mainGlobals "_law_right" = some (some (.ref f32)))
    (l32 : K.lookup f32 = some ⟨oc32, od32, .func (PySem.W.fnOf "_law_right" "_law_right" (defArgs sm_law_right) (defBody sm_law_right) (defScope sm_law_right) .none kV32 dc32 pm32 an32 cd32 ct32), sl32⟩)
    (c32 : PySem.W.codeIn K cd32 "_law_right" = true)
    (k32 : PySem.W.keepIn K (.ref f32) = true)
    (a33 : PySem.W.nsIn K mainGlobals "law" = some (some (.ref f33)))
    (l33 : K.lookup f33 = some ⟨oc33, od33, .func (PySem.W.fnOf "law" "law" (defArgs sm_law) (defBody sm_law) (defScope sm_law) .none kV33 dc33 pm33 an33 cd33 ct33), sl33⟩)
    (c33 : PySem.W.codeIn K cd33 "law" = true)
    (k33 : PySem.W.keepIn K (.ref f33) = true)
    (z_abs : PySem.W.nsIn K mainGlobals "abs" = some none)
    (z_all : PySem.W.nsIn K mainGlobals "all" = some none)
    (z_any : PySem.W.nsIn K mainGlobals "any" = some none)
    (z_bool : PySem.W.nsIn K mainGlobals "bool" = some none)
    (z_dict : PySem.W.nsIn K mainGlobals "dict" = some none)
    (z_enumerate : PySem.W.nsIn K mainGlobals "enumerate" = some none)
    (z_int : PySem.W.nsIn K mainGlobals "int" = some none)
    (z_isinstance : PySem.W.nsIn K mainGlobals "isinstance" = some none)
    (z_len : PySem.W.nsIn K mainGlobals "len" = some none)
    (z_list : PySem.W.nsIn K mainGlobals "list" = some none)
    (z_max : PySem.W.nsIn K mainGlobals "max" = some none)
    (z_min : PySem.W.nsIn K mainGlobals "min" = some none)
    (z_range : PySem.W.nsIn K mainGlobals "range" = some none)
    (z_reversed : PySem.W.nsIn K mainGlobals "reversed" = some none)
    (z_set : PySem.W.nsIn K mainGlobals "set" = some none)
    (z_sorted : PySem.W.nsIn K mainGlobals "sorted" = some none)
    (z_sum : PySem.W.nsIn K mainGlobals "sum" = some none)
    (z_tuple : PySem.W.nsIn K mainGlobals "tuple" = some none)
    (z_zip : PySem.W.nsIn K mainGlobals "zip" = some none) :
    ∃ fd : FuncData, (∀ (s : Shared) (v : Value), BindsTo s fd ⟨[v], []⟩ [("script", v)]) ∧ ∀ base : Heap, K.In base → base.Ns mainGlobals mg → FnOk l.prog w K mg base CX0 7 fa fd ["script"] (spOf K pf_m_law) := by
  have e := hfa.symm.trans (PySem.W.mg_of X G a33)
  cases e
  have cc_Costs : Cls K C_Costs := ⟨pg_Costs, hd_Costs, po_Costs, sa_Costs⟩
  have F1 := fun_mk (st := sm_apart) l1 c1 k1
  have b1 := F1.binds (ps := ["one", "other"]) fun _ _ _ _ _ _ us hl => match us, hl with | [_, _], _ => rfl
  have F2 := fun_mk (st := sm_cost_of) l2 c2 k2
  have b2 := F2.binds (ps := ["one", "other", "price", "pairs"]) fun _ _ _ _ _ _ us hl => match us, hl with | [_, _, _, _], _ => rfl
  have F3 := fun_mk (st := sm_ones_in) l3 c3 k3
  have b3 := F3.binds (ps := ["mask"]) fun _ _ _ _ _ _ us hl => match us, hl with | [_], _ => rfl
  have F4 := fun_mk (st := sm_Costs_free) l4 c4 k4
  have b4 := F4.binds (ps := ["self", "mask"]) fun _ _ _ _ _ _ us hl => match us, hl with | [_, _], _ => rfl
  have F5 := fun_mk (st := sm_Costs_from_here) l5 c5 k5
  have b5 := F5.binds (ps := ["self", "i", "mask"]) fun _ _ _ _ _ _ us hl => match us, hl with | [_, _, _], _ => rfl
  have F6 := fun_mk (st := sm_Costs_init) l6 c6 k6
  have b6 := F6.binds (ps := ["self", "one", "other", "price"]) fun _ _ _ _ _ _ us hl => match us, hl with | [_, _, _, _], _ => rfl
  have F7 := fun_mk (st := sm_Costs_rest) l7 c7 k7
  have b7 := F7.binds (ps := ["self", "i", "mask"]) fun _ _ _ _ _ _ us hl => match us, hl with | [_, _, _], _ => rfl
  have F8 := fun_mk (st := sm_Costs_partner) l8 c8 k8
  have b8 := F8.binds (ps := ["self", "i", "mask"]) fun _ _ _ _ _ _ us hl => match us, hl with | [_, _, _], _ => rfl
  have F9 := fun_mk (st := sm_Costs_first_pairs) l9 c9 k9
  have b9 := F9.binds (ps := ["self"]) fun _ _ _ _ _ _ us hl => match us, hl with | [_], _ => rfl
  have F10 := fun_mk (st := sm_least_change) l10 c10 k10
  have b10 := F10.binds (ps := ["one", "other", "price"]) fun _ _ _ _ _ _ us hl => match us, hl with | [_, _, _], _ => rfl
  have F11 := fun_mk (st := sm_bounds_between) l11 c11 k11
  have b11 := F11.binds (ps := ["one", "other", "price", "pairs"]) fun _ _ _ _ _ _ us hl => match us, hl with | [_, _, _, _], _ => rfl
  have F12 := fun_mk (st := sm_numbers_within) l12 c12 k12
  have b12 := F12.binds (ps := ["rows", "many"]) fun _ _ _ _ _ _ us hl => match us, hl with | [_, _], _ => rfl
  have F13 := fun_mk (st := sm_change_paper) l13 c13 k13
  have b13 := F13.binds (ps := ["one", "other", "price"]) fun _ _ _ _ _ _ us hl => match us, hl with | [_, _, _], _ => rfl
  have F14 := fun_mk (st := sm_is_whole) l14 c14 k14
  have b14 := F14.binds (ps := ["thing"]) fun _ _ _ _ _ _ us hl => match us, hl with | [_], _ => rfl
  have F15 := fun_mk (st := sm_is_pair_within) l15 c15 k15
  have b15 := F15.binds (ps := ["thing", "many", "others"]) fun _ _ _ _ _ _ us hl => match us, hl with | [_, _, _], _ => rfl
  have F16 := fun_mk (st := sm_are_pairs) l16 c16 k16
  have b16 := F16.binds (ps := ["thing", "many", "others"]) fun _ _ _ _ _ _ us hl => match us, hl with | [_, _, _], _ => rfl
  have F17 := fun_mk (st := sm_are_prices) l17 c17 k17
  have b17 := F17.binds (ps := ["thing", "many", "price"]) fun _ _ _ _ _ _ us hl => match us, hl with | [_, _, _], _ => rfl
  have F18 := fun_mk (st := sm_shows_change) l18 c18 k18
  have b18 := F18.binds (ps := ["one", "other", "price", "pairs", "paper"]) fun _ _ _ _ _ _ us hl => match us, hl with | [_, _, _, _, _], _ => rfl
  have F19 := fun_mk (st := sm_law_mix) l19 c19 k19
  have b19 := F19.binds (ps := ["cell", "k"]) fun _ _ _ _ _ _ us hl => match us, hl with | [_, _], _ => rfl
  have F20 := fun_mk (st := sm_law_left) l20 c20 k20
  have b20 := F20.binds (ps := ["script", "k"]) fun _ _ _ _ _ _ us hl => match us, hl with | [_, _], _ => rfl
  have F21 := fun_mk (st := sm_law_pick) l21 c21 k21
  have b21 := F21.binds (ps := ["left", "many"]) fun _ _ _ _ _ _ us hl => match us, hl with | [_, _], _ => rfl
  have F22 := fun_mk (st := sm_law_kind) l22 c22 k22
  have b22 := F22.binds (ps := ["left"]) fun _ _ _ _ _ _ us hl => match us, hl with | [_], _ => rfl
  have F23 := fun_mk (st := sm_law_colour) l23 c23 k23
  have b23 := F23.binds (ps := ["left", "kind"]) fun _ _ _ _ _ _ us hl => match us, hl with | [_, _], _ => rfl
  have F24 := fun_mk (st := sm_law_apart) l24 c24 k24
  have b24 := F24.binds (ps := ["one", "other"]) fun _ _ _ _ _ _ us hl => match us, hl with | [_, _], _ => rfl
  have F25 := fun_mk (st := sm_law_few) l25 c25 k25
  have b25 := F25.binds (ps := ["left", "kind", "most"]) fun _ _ _ _ _ _ us hl => match us, hl with | [_, _, _], _ => rfl
  have F26 := fun_mk (st := sm_law_two) l26 c26 k26
  have b26 := F26.binds (ps := ["left", "most"]) fun _ _ _ _ _ _ us hl => match us, hl with | [_, _], _ => rfl
  have F27 := fun_mk (st := sm_law_price) l27 c27 k27
  have b27 := F27.binds (ps := ["left", "one", "other"]) fun _ _ _ _ _ _ us hl => match us, hl with | [_, _, _], _ => rfl
  have F28 := fun_mk (st := sm_law_cost) l28 c28 k28
  have b28 := F28.binds (ps := ["one", "other", "price", "pairs"]) fun _ _ _ _ _ _ us hl => match us, hl with | [_, _, _, _], _ => rfl
  have F29 := fun_mk (st := sm_law_all_pairs) l29 c29 k29
  have b29 := F29.binds (ps := ["many", "others"]) fun _ _ _ _ _ _ us hl => match us, hl with | [_, _], _ => rfl
  have F30 := fun_mk (st := sm_law_drawn) l30 c30 k30
  have b30 := F30.binds (ps := ["left", "one", "other", "price", "paper"]) fun _ _ _ _ _ _ us hl => match us, hl with | [_, _, _, _, _], _ => rfl
  have F31 := fun_mk (st := sm_law_keeps) l31 c31 k31
  have b31 := F31.binds (ps := ["one", "other", "price", "paper"]) fun _ _ _ _ _ _ us hl => match us, hl with | [_, _, _, _], _ => rfl
  have F32 := fun_mk (st := sm_law_right) l32 c32 k32
  have b32 := F32.binds (ps := ["one", "other", "price", "paper", "lists", "least"]) fun _ _ _ _ _ _ us hl => match us, hl with | [_, _, _, _, _, _], _ => rfl
  have F33 := fun_mk (st := sm_law) l33 c33 k33
  refine ⟨PySem.W.fnOf "law" "law" (defArgs sm_law) (defBody sm_law) (defScope sm_law) .none kV33 dc33 pm33 an33 cd33 ct33, fun s v => .of_eq rfl, fun base _ _ => ?_⟩
  have G1 : FnOk l.prog w K mg base CX0 1 f1 _ ["one", "other"] (spOf K (pf_m_apart)) := ok_m_apart F1 (PySem.W.mg_none_of X G z_sum) (PySem.W.mg_none_of X G z_zip)
  have G2 : FnOk l.prog w K mg base CX0 2 f2 _ ["one", "other", "price", "pairs"] (spOf K (pf_m_cost_of)) := ok_m_cost_of F2 G1 (PySem.W.mg_of X G a1) k1 b1 (PySem.W.mg_none_of X G z_len) (PySem.W.mg_none_of X G z_sum)
  have G3 : FnOk l.prog w K mg base CX0 1 f3 _ ["mask"] (spOf K (pf_m_ones_in)) := ok_m_ones_in F3 
  have G4 : FnOk l.prog w K mg base CX0 1 f4 _ ["self", "mask"] (spOf K (pf_m_Costs_free C_Costs)) := ok_m_Costs_free F4 cc_Costs na_Costs_others (PySem.W.mg_none_of X G z_range)
  have G5 : FnOk l.prog w K mg base CX0 2 f5 _ ["self", "i", "mask"] (spOf K (pf_m_Costs_from_here C_Costs)) := ok_m_Costs_from_here F5 cc_Costs na_Costs_least na_Costs_price na_Costs_squares G4 ⟨a4, i4, k4⟩ b4 (PySem.W.mg_none_of X G z_min)
  have G6 : FnOk l.prog w K mg base CX0 3 f6 _ ["self", "one", "other", "price"] (spOf K (pf_m_Costs_init C_Costs)) := ok_m_Costs_init F6 cc_Costs na_Costs_least na_Costs_many na_Costs_others na_Costs_price na_Costs_squares G5 ⟨a5, i5, k5⟩ b5 G1 (PySem.W.mg_of X G a1) k1 b1 G3 (PySem.W.mg_of X G a3) k3 b3 (PySem.W.mg_none_of X G z_len) (PySem.W.mg_none_of X G z_range) (PySem.W.mg_none_of X G z_reversed)
  have G7 : FnOk l.prog w K mg base CX0 2 f7 _ ["self", "i", "mask"] (spOf K (pf_m_Costs_rest C_Costs)) := ok_m_Costs_rest F7 cc_Costs na_Costs_many na_Costs_others na_Costs_price G3 (PySem.W.mg_of X G a3) k3 b3
  have G8 : FnOk l.prog w K mg base CX0 2 f8 _ ["self", "i", "mask"] (spOf K (pf_m_Costs_partner C_Costs)) := ok_m_Costs_partner F8 cc_Costs na_Costs_least na_Costs_squares G4 ⟨a4, i4, k4⟩ b4
  have G9 : FnOk l.prog w K mg base CX0 3 f9 _ ["self"] (spOf K (pf_m_Costs_first_pairs C_Costs)) := ok_m_Costs_first_pairs F9 cc_Costs na_Costs_least na_Costs_many G8 ⟨a8, i8, k8⟩ b8 G7 ⟨a7, i7, k7⟩ b7 (PySem.W.mg_none_of X G z_range)
  have G10 : FnOk l.prog w K mg base CX0 5 f10 _ ["one", "other", "price"] (spOf K (pf_m_least_change)) := ok_m_least_change F10 cc_Costs na_Costs_least G6 ⟨mk_Costs, a6, i6, kc_Costs⟩ (PySem.W.mg_of X G aC_Costs) b6 G9 ⟨a9, i9, k9⟩ b9
  have G11 : FnOk l.prog w K mg base CX0 2 f11 _ ["one", "other", "price", "pairs"] (spOf K (pf_m_bounds_between)) := ok_m_bounds_between F11 G1 (PySem.W.mg_of X G a1) k1 b1 (PySem.W.mg_none_of X G z_dict) (PySem.W.mg_none_of X G z_len) (PySem.W.mg_none_of X G z_range)
  have G12 : FnOk l.prog w K mg base CX0 1 f12 _ ["rows", "many"] (spOf K (pf_m_numbers_within)) := ok_m_numbers_within F12 
  have G13 : FnOk l.prog w K mg base CX0 6 f13 _ ["one", "other", "price"] (spOf K (pf_m_change_paper)) := ok_m_change_paper F13 G11 (PySem.W.mg_of X G a11) k11 b11 G10 (PySem.W.mg_of X G a10) k10 b10 G12 (PySem.W.mg_of X G a12) k12 b12 (PySem.W.mg_none_of X G z_len)
  have G14 : FnOk l.prog w K mg base CX0 1 f14 _ ["thing"] (spOf K (pf_m_is_whole)) := ok_m_is_whole F14 (PySem.W.mg_none_of X G z_bool) (PySem.W.mg_none_of X G z_int) (PySem.W.mg_none_of X G z_isinstance)
  have G15 : FnOk l.prog w K mg base CX0 2 f15 _ ["thing", "many", "others"] (spOf K (pf_m_is_pair_within)) := ok_m_is_pair_within F15 G14 (PySem.W.mg_of X G a14) k14 b14 (PySem.W.mg_none_of X G z_all) (PySem.W.mg_none_of X G z_isinstance) (PySem.W.mg_none_of X G z_len) (PySem.W.mg_none_of X G z_tuple)
  have G16 : FnOk l.prog w K mg base CX0 3 f16 _ ["thing", "many", "others"] (spOf K (pf_m_are_pairs)) := ok_m_are_pairs F16 G15 (PySem.W.mg_of X G a15) k15 b15 (PySem.W.mg_none_of X G z_all) (PySem.W.mg_none_of X G z_isinstance) (PySem.W.mg_none_of X G z_len) (PySem.W.mg_none_of X G z_list) (PySem.W.mg_none_of X G z_range) (PySem.W.mg_none_of X G z_set)
  have G17 : FnOk l.prog w K mg base CX0 2 f17 _ ["thing", "many", "price"] (spOf K (pf_m_are_prices)) := ok_m_are_prices F17 G14 (PySem.W.mg_of X G a14) k14 b14 (PySem.W.mg_none_of X G z_all) (PySem.W.mg_none_of X G z_isinstance) (PySem.W.mg_none_of X G z_len) (PySem.W.mg_none_of X G z_list)
  have G18 : FnOk l.prog w K mg base CX0 4 f18 _ ["one", "other", "price", "pairs", "paper"] (spOf K (pf_m_shows_change)) := ok_m_shows_change F18 G1 (PySem.W.mg_of X G a1) k1 b1 G16 (PySem.W.mg_of X G a16) k16 b16 G17 (PySem.W.mg_of X G a17) k17 b17 G2 (PySem.W.mg_of X G a2) k2 b2 (PySem.W.mg_none_of X G z_all) (PySem.W.mg_none_of X G z_isinstance) (PySem.W.mg_none_of X G z_len) (PySem.W.mg_none_of X G z_sum) (PySem.W.mg_none_of X G z_tuple) (PySem.W.mg_none_of X G z_zip)
  have G19 : FnOk l.prog w K mg base CX0 1 f19 _ ["cell", "k"] (spOf K (pf_m_law_mix)) := ok_m_law_mix F19 
  have G20 : FnOk l.prog w K mg base CX0 1 f20 _ ["script", "k"] (spOf K (pf_m_law_left)) := ok_m_law_left F20 (PySem.W.mg_none_of X G z_abs) (PySem.W.mg_none_of X G z_int) (PySem.W.mg_none_of X G z_len)
  have G21 : FnOk l.prog w K mg base CX0 2 f21 _ ["left", "many"] (spOf K (pf_m_law_pick)) := ok_m_law_pick F21 G19 (PySem.W.mg_of X G a19) k19 b19
  have G22 : FnOk l.prog w K mg base CX0 3 f22 _ ["left"] (spOf K (pf_m_law_kind)) := ok_m_law_kind F22 G21 (PySem.W.mg_of X G a21) k21 b21
  have G23 : FnOk l.prog w K mg base CX0 3 f23 _ ["left", "kind"] (spOf K (pf_m_law_colour)) := ok_m_law_colour F23 G21 (PySem.W.mg_of X G a21) k21 b21 (PySem.W.mg_none_of X G z_int) (PySem.W.mg_none_of X G z_range) (PySem.W.mg_none_of X G z_tuple)
  have G24 : FnOk l.prog w K mg base CX0 1 f24 _ ["one", "other"] (spOf K (pf_m_law_apart)) := ok_m_law_apart F24 (PySem.W.mg_none_of X G z_sum) (PySem.W.mg_none_of X G z_zip)
  have G25 : FnOk l.prog w K mg base CX0 4 f25 _ ["left", "kind", "most"] (spOf K (pf_m_law_few)) := ok_m_law_few F25 G23 (PySem.W.mg_of X G a23) k23 b23 G21 (PySem.W.mg_of X G a21) k21 b21 (PySem.W.mg_none_of X G z_len) (PySem.W.mg_none_of X G z_range)
  have G26 : FnOk l.prog w K mg base CX0 5 f26 _ ["left", "most"] (spOf K (pf_m_law_two)) := ok_m_law_two F26 G25 (PySem.W.mg_of X G a25) k25 b25 G22 (PySem.W.mg_of X G a22) k22 b22 G21 (PySem.W.mg_of X G a21) k21 b21 (PySem.W.mg_none_of X G z_len) (PySem.W.mg_none_of X G z_range)
  have G27 : FnOk l.prog w K mg base CX0 3 f27 _ ["left", "one", "other"] (spOf K (pf_m_law_price)) := ok_m_law_price F27 G24 (PySem.W.mg_of X G a24) k24 b24 G21 (PySem.W.mg_of X G a21) k21 b21 (PySem.W.mg_none_of X G z_len) (PySem.W.mg_none_of X G z_min)
  have G28 : FnOk l.prog w K mg base CX0 2 f28 _ ["one", "other", "price", "pairs"] (spOf K (pf_m_law_cost)) := ok_m_law_cost F28 G24 (PySem.W.mg_of X G a24) k24 b24 (PySem.W.mg_none_of X G z_len) (PySem.W.mg_none_of X G z_sum)
  have G29 : FnOk l.prog w K mg base CX0 1 f29 _ ["many", "others"] (spOf K (pf_m_law_all_pairs)) := ok_m_law_all_pairs F29 (PySem.W.mg_none_of X G z_list) (PySem.W.mg_none_of X G z_range)
  have G30 : FnOk l.prog w K mg base CX0 3 f30 _ ["left", "one", "other", "price", "paper"] (spOf K (pf_m_law_drawn)) := ok_m_law_drawn F30 G24 (PySem.W.mg_of X G a24) k24 b24 G21 (PySem.W.mg_of X G a21) k21 b21 (PySem.W.mg_none_of X G z_enumerate) (PySem.W.mg_none_of X G z_len) (PySem.W.mg_none_of X G z_list) (PySem.W.mg_none_of X G z_min) (PySem.W.mg_none_of X G z_range)
  have G31 : FnOk l.prog w K mg base CX0 2 f31 _ ["one", "other", "price", "paper"] (spOf K (pf_m_law_keeps)) := ok_m_law_keeps F31 G24 (PySem.W.mg_of X G a24) k24 b24 (PySem.W.mg_none_of X G z_any) (PySem.W.mg_none_of X G z_enumerate) (PySem.W.mg_none_of X G z_len) (PySem.W.mg_none_of X G z_max) (PySem.W.mg_none_of X G z_range)
  have G32 : FnOk l.prog w K mg base CX0 5 f32 _ ["one", "other", "price", "paper", "lists", "least"] (spOf K (pf_m_law_right)) := ok_m_law_right F32 G28 (PySem.W.mg_of X G a28) k28 b28 G31 (PySem.W.mg_of X G a31) k31 b31 G18 (PySem.W.mg_of X G a18) k18 b18 (PySem.W.mg_none_of X G z_bool) (PySem.W.mg_none_of X G z_isinstance) (PySem.W.mg_none_of X G z_sum)
  exact ok_m_law F33 G29 (PySem.W.mg_of X G a29) k29 b29 G28 (PySem.W.mg_of X G a28) k28 b28 G30 (PySem.W.mg_of X G a30) k30 b30 G20 (PySem.W.mg_of X G a20) k20 b20 G27 (PySem.W.mg_of X G a27) k27 b27 G32 (PySem.W.mg_of X G a32) k32 b32 G26 (PySem.W.mg_of X G a26) k26 b26 G13 (PySem.W.mg_of X G a13) k13 b13 G10 (PySem.W.mg_of X G a10) k10 b10 G18 (PySem.W.mg_of X G a18) k18 b18 (PySem.W.mg_none_of X G z_len) (PySem.W.mg_none_of X G z_max) (PySem.W.mg_none_of X G z_min) (PySem.W.mg_none_of X G z_range) (PySem.W.mg_none_of X G z_sorted) (PySem.W.mg_none_of X G z_sum)
end K92
open PySem PySem.W PyProof.Rows
set_option maxHeartbeats 0 in
theorem PySem.Challenge.cw_fewcolours_k92_whole_prices_show_the_lea_holds : PySem.Challenge.rw_fewcolours_k92_whole_prices_show_the_lea.Holds := by
  w_on; o_law; k_head; (case hw => w_witness2)
  k_fill
  refine L2.walk_of (l := PySem.Challenge.rw_fewcolours_k92_whole_prices_show_the_lea) (n := 63) (k := 7) (x := "script") (CX := fun _ => L2.CX0) (sp := fun w => FC.spOf _ K92.pf_m_law) rfl (by decide) rfl ⟨rfl, by decide, by decide⟩ (fun w h Y => PySem.W.kIn_of Y) ?F (fun _ _ a ns hl _ hS => FC.law_start ⟨_, ⟨a, ns, true, K92.law_plain ns hl, rfl, rfl, rfl⟩, fun r m2 h => h.1⟩ hS) (fun _ _ _ _ _ h => h)
  case F =>
    intro w mg fa h KX G hmg
    refine' K92.all_mk KX G hmg ?aC_Costs ?pg_Costs ?hd_Costs ?po_Costs ?sa_Costs ?mk_Costs ?kc_Costs ?na_Costs_least ?na_Costs_many ?na_Costs_others ?na_Costs_price ?na_Costs_squares ?a1 ?l1 ?c1 ?k1 ?a2 ?l2 ?c2 ?k2 ?a3 ?l3 ?c3 ?k3 ?a4 ?i4 ?l4 ?c4 ?k4 ?a5 ?i5 ?l5 ?c5 ?k5 ?a6 ?i6 ?l6 ?c6 ?k6 ?a7 ?i7 ?l7 ?c7 ?k7 ?a8 ?i8 ?l8 ?c8 ?k8 ?a9 ?i9 ?l9 ?c9 ?k9 ?a10 ?l10 ?c10 ?k10 ?a11 ?l11 ?c11 ?k11 ?a12 ?l12 ?c12 ?k12 ?a13 ?l13 ?c13 ?k13 ?a14 ?l14 ?c14 ?k14 ?a15 ?l15 ?c15 ?k15 ?a16 ?l16 ?c16 ?k16 ?a17 ?l17 ?c17 ?k17 ?a18 ?l18 ?c18 ?k18 ?a19 ?l19 ?c19 ?k19 ?a20 ?l20 ?c20 ?k20 ?a21 ?l21 ?c21 ?k21 ?a22 ?l22 ?c22 ?k22 ?a23 ?l23 ?c23 ?k23 ?a24 ?l24 ?c24 ?k24 ?a25 ?l25 ?c25 ?k25 ?a26 ?l26 ?c26 ?k26 ?a27 ?l27 ?c27 ?k27 ?a28 ?l28 ?c28 ?k28 ?a29 ?l29 ?c29 ?k29 ?a30 ?l30 ?c30 ?k30 ?a31 ?l31 ?c31 ?k31 ?a32 ?l32 ?c32 ?k32 ?a33 ?l33 ?c33 ?k33 ?z_abs ?z_all ?z_any ?z_bool ?z_dict ?z_enumerate ?z_int ?z_isinstance ?z_len ?z_list ?z_max ?z_min ?z_range ?z_reversed ?z_set ?z_sorted ?z_sum ?z_tuple ?z_zip
    (case aC_Costs => k_is); (case pg_Costs => k_is); (case hd_Costs => k_is); (case po_Costs => k_is); (case sa_Costs => k_is); (case mk_Costs => k_is); (case kc_Costs => k_is); (case na_Costs_least => k_is); (case na_Costs_many => k_is); (case na_Costs_others => k_is); (case na_Costs_price => k_is); (case na_Costs_squares => k_is); (case a1 => k_is); (case l1 => k_is); (case c1 => k_is); (case k1 => k_is); (case a2 => k_is); (case l2 => k_is); (case c2 => k_is); (case k2 => k_is); (case a3 => k_is); (case l3 => k_is); (case c3 => k_is); (case k3 => k_is); (case a4 => k_is); (case i4 => k_is); (case l4 => k_is); (case c4 => k_is); (case k4 => k_is); (case a5 => k_is); (case i5 => k_is); (case l5 => k_is); (case c5 => k_is); (case k5 => k_is); (case a6 => k_is); (case i6 => k_is); (case l6 => k_is); (case c6 => k_is); (case k6 => k_is); (case a7 => k_is); (case i7 => k_is); (case l7 => k_is); (case c7 => k_is); (case k7 => k_is); (case a8 => k_is); (case i8 => k_is); (case l8 => k_is); (case c8 => k_is); (case k8 => k_is); (case a9 => k_is); (case i9 => k_is); (case l9 => k_is); (case c9 => k_is); (case k9 => k_is); (case a10 => k_is); (case l10 => k_is); (case c10 => k_is); (case k10 => k_is); (case a11 => k_is); (case l11 => k_is); (case c11 => k_is); (case k11 => k_is); (case a12 => k_is); (case l12 => k_is); (case c12 => k_is); (case k12 => k_is); (case a13 => k_is); (case l13 => k_is); (case c13 => k_is); (case k13 => k_is); (case a14 => k_is); (case l14 => k_is); (case c14 => k_is); (case k14 => k_is); (case a15 => k_is); (case l15 => k_is); (case c15 => k_is); (case k15 => k_is); (case a16 => k_is); (case l16 => k_is); (case c16 => k_is); (case k16 => k_is); (case a17 => k_is); (case l17 => k_is); (case c17 => k_is); (case k17 => k_is); (case a18 => k_is); (case l18 => k_is); (case c18 => k_is); (case k18 => k_is); (case a19 => k_is); (case l19 => k_is); (case c19 => k_is); (case k19 => k_is); (case a20 => k_is); (case l20 => k_is); (case c20 => k_is); (case k20 => k_is); (case a21 => k_is); (case l21 => k_is); (case c21 => k_is); (case k21 => k_is); (case a22 => k_is); (case l22 => k_is); (case c22 => k_is); (case k22 => k_is); (case a23 => k_is); (case l23 => k_is); (case c23 => k_is); (case k23 => k_is); (case a24 => k_is); (case l24 => k_is); (case c24 => k_is); (case k24 => k_is); (case a25 => k_is); (case l25 => k_is); (case c25 => k_is); (case k25 => k_is); (case a26 => k_is); (case l26 => k_is); (case c26 => k_is); (case k26 => k_is); (case a27 => k_is); (case l27 => k_is); (case c27 => k_is); (case k27 => k_is); (case a28 => k_is); (case l28 => k_is); (case c28 => k_is); (case k28 => k_is); (case a29 => k_is); (case l29 => k_is); (case c29 => k_is); (case k29 => k_is); (case a30 => k_is); (case l30 => k_is); (case c30 => k_is); (case k30 => k_is); (case a31 => k_is); (case l31 => k_is); (case c31 => k_is); (case k31 => k_is); (case a32 => k_is); (case l32 => k_is); (case c32 => k_is); (case k32 => k_is); (case a33 => k_is); (case l33 => k_is); (case c33 => k_is); (case k33 => k_is); (case z_abs => k_is); (case z_all => k_is); (case z_any => k_is); (case z_bool => k_is); (case z_dict => k_is); (case z_enumerate => k_is); (case z_int => k_is); (case z_isinstance => k_is); (case z_len => k_is); (case z_list => k_is); (case z_max => k_is); (case z_min => k_is); (case z_range => k_is); (case z_reversed => k_is); (case z_set => k_is); (case z_sorted => k_is); (case z_sum => k_is); (case z_tuple => k_is); (case z_zip => k_is)
